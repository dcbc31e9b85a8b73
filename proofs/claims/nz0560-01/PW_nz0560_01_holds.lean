import PyProof.Rows.All
import Wide.All
import OpenK.AllK
import Wide.FinOn
import PySem.Challenge.RW_nz0560_01
set_option Elab.async false
section
open PySem PySem.W PySem.Spec PySem.Calls PyProof.Rows
namespace Mine
/-- a def's object, read off the text's i-th statement -/
noncomputable def fX (m : Value) (cd : Addr) {i : Nat} {n : Str} {ps : Arguments} {b : List Stmt} {dl : List PySem.Expr} {ret : Option PySem.Expr} {tp : List TypeParam} {sc : Scope} {ts : Option Scope} {bd : Str} {pos : Pos}
    (_h : PySem.Challenge.rw_nz0560_01.row.prog.main.body[i]? = some (.FunctionDef n ps b dl ret tp sc ts bd pos)) : Obj :=
  { cls := .type "function", data := .func { name := n, qualname := n, params := ps, body := .stmts b, scope := sc, globals := 3, closure := [], defaults := .none, kwdefaults := .none, pyModule := m, code := .ref cd } }
noncomputable def nE (P : Params) (x : Str) (t : Nat) (v : Value) : DictEntry := { hash := PyData.keyHash P x, key := .str x t, val := v }
abbrev modP : Value := .str "z80.flags" 187
abbrev modL : Value := .str "law_nz0560_01" 367
set_option maxRecDepth 100000 in
noncomputable def KF : Params → Frag := fun P =>
  (nat_lit 2, { cls := .none, data := .dict #[] }) ::
  (nat_lit 3, { cls := .type "dict", data := .dict #[
      nE P "__name__" 165 (.str "law_nz0560_01" 367),
      nE P "__doc__" 166 (.none),
      nE P "__package__" 167 (.none),
      nE P "__loader__" 168 (.builtin "__main__.__loader__#opaque"),
      nE P "__spec__" 169 (.none),
      nE P "__annotations__" 170 (.ref 6),
      nE P "__builtins__" 171 (.ref 4),
      nE P "__file__" 173 (.str "/claim/cut.py" 172),
      nE P "__cached__" 174 (.none),
      nE P "S" 190 (.int 128 189),
      nE P "Z" 192 (.int 64 191),
      nE P "H" 194 (.int 16 193),
      nE P "PV" 196 (.int 4 195),
      nE P "N" 198 (.int 2 197),
      nE P "C" 200 (.int 1 199),
      nE P "YX" 202 (.int 40 201),
      nE P "KEPT" 205 (.int 196 204),
      nE P "parity" 212 (.ref 21),
      nE P "szyx" 219 (.ref 28),
      nE P "add8" 231 (.ref 35),
      nE P "sub8" 243 (.ref 42),
      nE P "cp8" 253 (.ref 49),
      nE P "and8" 262 (.ref 56),
      nE P "or8" 271 (.ref 63),
      nE P "xor8" 280 (.ref 70),
      nE P "inc8" 289 (.ref 77),
      nE P "dec8" 298 (.ref 84),
      nE P "neg" 305 (.ref 91),
      nE P "by_number" 315 (.ref 98),
      nE P "high_flags" 324 (.ref 105),
      nE P "add16" 335 (.ref 112),
      nE P "word_flags" 342 (.ref 119),
      nE P "adc16" 354 (.ref 126),
      nE P "sbc16" 366 (.ref 133),
      nE P "_law_deal" 374 (.ref 138),
      nE P "_law_take" 382 (.ref 145),
      nE P "_law_octet" 390 (.ref 152),
      nE P "_law_word" 398 (.ref 159),
      nE P "_law_signed" 406 (.ref 166),
      nE P "_law_is_even" 412 (.ref 171),
      nE P "_law_flags" 418 (.ref 176),
      nE P "_law_kept" 424 (.ref 181),
      nE P "_law_of" 431 (.ref 188),
      nE P "_law_sum" 447 (.ref 195),
      nE P "_law_order_due" 453 (.ref 200),
      nE P "_law_step_due" 467 (.ref 207),
      nE P "_law_words_due" 483 (.ref 214),
      nE P "law" 489 (.ref 219)] 48 }) ::
  (nat_lit 20, { cls := .type "code", data := .fields #[.str "parity" 206, .str "parity" 207, .str "/claim/cut.py" 208, .int 10 0, .int 1 0, .int 0 0, .int 0 0, .int 3 0, .ref 15, .bool true, .int 181 0, .ref 16, .none, .ref 17, .ref 18, .ref 19, .int 210 0, .int 10 0, .str "/claim/cut.py" 211] }) ::
  (nat_lit 21, fX modP 20 (i := 9) rfl) ::
  (nat_lit 27, { cls := .type "code", data := .fields #[.str "szyx" 213, .str "szyx" 214, .str "/claim/cut.py" 215, .int 15 0, .int 1 0, .int 0 0, .int 0 0, .int 3 0, .ref 22, .bool true, .int 181 0, .ref 23, .none, .ref 24, .ref 25, .ref 26, .int 217 0, .int 15 0, .str "/claim/cut.py" 218] }) ::
  (nat_lit 28, fX modP 27 (i := 10) rfl) ::
  (nat_lit 34, { cls := .type "code", data := .fields #[.str "add8" 220, .str "add8" 221, .str "/claim/cut.py" 222, .int 17 0, .int 3 0, .int 0 0, .int 0 0, .int 3 0, .ref 29, .bool true, .int 181 0, .ref 30, .none, .ref 31, .ref 32, .ref 33, .int 229 0, .int 17 0, .str "/claim/cut.py" 230] }) ::
  (nat_lit 35, fX modP 34 (i := 11) rfl) ::
  (nat_lit 41, { cls := .type "code", data := .fields #[.str "sub8" 232, .str "sub8" 233, .str "/claim/cut.py" 234, .int 22 0, .int 3 0, .int 0 0, .int 0 0, .int 3 0, .ref 36, .bool true, .int 181 0, .ref 37, .none, .ref 38, .ref 39, .ref 40, .int 241 0, .int 22 0, .str "/claim/cut.py" 242] }) ::
  (nat_lit 42, fX modP 41 (i := 12) rfl) ::
  (nat_lit 48, { cls := .type "code", data := .fields #[.str "cp8" 244, .str "cp8" 245, .str "/claim/cut.py" 246, .int 27 0, .int 2 0, .int 0 0, .int 0 0, .int 3 0, .ref 43, .bool true, .int 181 0, .ref 44, .none, .ref 45, .ref 46, .ref 47, .int 251 0, .int 27 0, .str "/claim/cut.py" 252] }) ::
  (nat_lit 49, fX modP 48 (i := 13) rfl) ::
  (nat_lit 55, { cls := .type "code", data := .fields #[.str "and8" 254, .str "and8" 255, .str "/claim/cut.py" 256, .int 30 0, .int 2 0, .int 0 0, .int 0 0, .int 3 0, .ref 50, .bool true, .int 181 0, .ref 51, .none, .ref 52, .ref 53, .ref 54, .int 260 0, .int 30 0, .str "/claim/cut.py" 261] }) ::
  (nat_lit 56, fX modP 55 (i := 14) rfl) ::
  (nat_lit 62, { cls := .type "code", data := .fields #[.str "or8" 263, .str "or8" 264, .str "/claim/cut.py" 265, .int 33 0, .int 2 0, .int 0 0, .int 0 0, .int 3 0, .ref 57, .bool true, .int 181 0, .ref 58, .none, .ref 59, .ref 60, .ref 61, .int 269 0, .int 33 0, .str "/claim/cut.py" 270] }) ::
  (nat_lit 63, fX modP 62 (i := 15) rfl) ::
  (nat_lit 69, { cls := .type "code", data := .fields #[.str "xor8" 272, .str "xor8" 273, .str "/claim/cut.py" 274, .int 36 0, .int 2 0, .int 0 0, .int 0 0, .int 3 0, .ref 64, .bool true, .int 181 0, .ref 65, .none, .ref 66, .ref 67, .ref 68, .int 278 0, .int 36 0, .str "/claim/cut.py" 279] }) ::
  (nat_lit 70, fX modP 69 (i := 16) rfl) ::
  (nat_lit 76, { cls := .type "code", data := .fields #[.str "inc8" 281, .str "inc8" 282, .str "/claim/cut.py" 283, .int 39 0, .int 2 0, .int 0 0, .int 0 0, .int 3 0, .ref 71, .bool true, .int 181 0, .ref 72, .none, .ref 73, .ref 74, .ref 75, .int 287 0, .int 39 0, .str "/claim/cut.py" 288] }) ::
  (nat_lit 77, fX modP 76 (i := 17) rfl) ::
  (nat_lit 83, { cls := .type "code", data := .fields #[.str "dec8" 290, .str "dec8" 291, .str "/claim/cut.py" 292, .int 42 0, .int 2 0, .int 0 0, .int 0 0, .int 3 0, .ref 78, .bool true, .int 181 0, .ref 79, .none, .ref 80, .ref 81, .ref 82, .int 296 0, .int 42 0, .str "/claim/cut.py" 297] }) ::
  (nat_lit 84, fX modP 83 (i := 18) rfl) ::
  (nat_lit 90, { cls := .type "code", data := .fields #[.str "neg" 299, .str "neg" 300, .str "/claim/cut.py" 301, .int 45 0, .int 1 0, .int 0 0, .int 0 0, .int 3 0, .ref 85, .bool true, .int 181 0, .ref 86, .none, .ref 87, .ref 88, .ref 89, .int 303 0, .int 45 0, .str "/claim/cut.py" 304] }) ::
  (nat_lit 91, fX modP 90 (i := 19) rfl) ::
  (nat_lit 97, { cls := .type "code", data := .fields #[.str "by_number" 306, .str "by_number" 307, .str "/claim/cut.py" 308, .int 47 0, .int 4 0, .int 0 0, .int 0 0, .int 3 0, .ref 92, .bool true, .int 181 0, .ref 93, .none, .ref 94, .ref 95, .ref 96, .int 313 0, .int 47 0, .str "/claim/cut.py" 314] }) ::
  (nat_lit 98, fX modP 97 (i := 20) rfl) ::
  (nat_lit 104, { cls := .type "code", data := .fields #[.str "high_flags" 316, .str "high_flags" 317, .str "/claim/cut.py" 318, .int 57 0, .int 3 0, .int 0 0, .int 0 0, .int 3 0, .ref 99, .bool true, .int 181 0, .ref 100, .none, .ref 101, .ref 102, .ref 103, .int 322 0, .int 57 0, .str "/claim/cut.py" 323] }) ::
  (nat_lit 105, fX modP 104 (i := 21) rfl) ::
  (nat_lit 111, { cls := .type "code", data := .fields #[.str "add16" 325, .str "add16" 326, .str "/claim/cut.py" 327, .int 59 0, .int 3 0, .int 0 0, .int 0 0, .int 3 0, .ref 106, .bool true, .int 181 0, .ref 107, .none, .ref 108, .ref 109, .ref 110, .int 333 0, .int 59 0, .str "/claim/cut.py" 334] }) ::
  (nat_lit 112, fX modP 111 (i := 22) rfl) ::
  (nat_lit 118, { cls := .type "code", data := .fields #[.str "word_flags" 336, .str "word_flags" 337, .str "/claim/cut.py" 338, .int 63 0, .int 1 0, .int 0 0, .int 0 0, .int 3 0, .ref 113, .bool true, .int 181 0, .ref 114, .none, .ref 115, .ref 116, .ref 117, .int 340 0, .int 63 0, .str "/claim/cut.py" 341] }) ::
  (nat_lit 119, fX modP 118 (i := 23) rfl) ::
  (nat_lit 125, { cls := .type "code", data := .fields #[.str "adc16" 343, .str "adc16" 344, .str "/claim/cut.py" 345, .int 65 0, .int 3 0, .int 0 0, .int 0 0, .int 3 0, .ref 120, .bool true, .int 181 0, .ref 121, .none, .ref 122, .ref 123, .ref 124, .int 352 0, .int 65 0, .str "/claim/cut.py" 353] }) ::
  (nat_lit 126, fX modP 125 (i := 24) rfl) ::
  (nat_lit 132, { cls := .type "code", data := .fields #[.str "sbc16" 355, .str "sbc16" 356, .str "/claim/cut.py" 357, .int 70 0, .int 3 0, .int 0 0, .int 0 0, .int 3 0, .ref 127, .bool true, .int 181 0, .ref 128, .none, .ref 129, .ref 130, .ref 131, .int 364 0, .int 70 0, .str "/claim/cut.py" 365] }) ::
  (nat_lit 133, fX modP 132 (i := 25) rfl) ::
  (nat_lit 137, { cls := .type "code", data := .fields #[.str "_law_deal" 369, .str "_law_deal" 370, .str "/claim/cut.py" 371, .int 76 0, .int 1 0, .int 0 0, .int 0 0, .int 3 0, .ref 134, .bool true, .int 181 0, .ref 135, .none, .none, .none, .ref 136, .int 372 0, .int 76 0, .str "/claim/cut.py" 373] }) ::
  (nat_lit 138, fX modL 137 (i := 27) rfl) ::
  (nat_lit 144, { cls := .type "code", data := .fields #[.str "_law_take" 375, .str "_law_take" 376, .str "/claim/cut.py" 377, .int 82 0, .int 2 0, .int 0 0, .int 0 0, .int 3 0, .ref 139, .bool true, .int 181 0, .ref 140, .none, .ref 141, .ref 142, .ref 143, .int 380 0, .int 82 0, .str "/claim/cut.py" 381] }) ::
  (nat_lit 145, fX modL 144 (i := 28) rfl) ::
  (nat_lit 151, { cls := .type "code", data := .fields #[.str "_law_octet" 383, .str "_law_octet" 384, .str "/claim/cut.py" 385, .int 88 0, .int 1 0, .int 0 0, .int 0 0, .int 3 0, .ref 146, .bool true, .int 181 0, .ref 147, .none, .ref 148, .ref 149, .ref 150, .int 388 0, .int 88 0, .str "/claim/cut.py" 389] }) ::
  (nat_lit 152, fX modL 151 (i := 29) rfl) ::
  (nat_lit 158, { cls := .type "code", data := .fields #[.str "_law_word" 391, .str "_law_word" 392, .str "/claim/cut.py" 393, .int 91 0, .int 1 0, .int 0 0, .int 0 0, .int 3 0, .ref 153, .bool true, .int 181 0, .ref 154, .none, .ref 155, .ref 156, .ref 157, .int 396 0, .int 91 0, .str "/claim/cut.py" 397] }) ::
  (nat_lit 159, fX modL 158 (i := 30) rfl) ::
  (nat_lit 165, { cls := .type "code", data := .fields #[.str "_law_signed" 399, .str "_law_signed" 400, .str "/claim/cut.py" 401, .int 94 0, .int 2 0, .int 0 0, .int 0 0, .int 3 0, .ref 160, .bool true, .int 181 0, .ref 161, .none, .ref 162, .ref 163, .ref 164, .int 404 0, .int 94 0, .str "/claim/cut.py" 405] }) ::
  (nat_lit 166, fX modL 165 (i := 31) rfl) ::
  (nat_lit 170, { cls := .type "code", data := .fields #[.str "_law_is_even" 407, .str "_law_is_even" 408, .str "/claim/cut.py" 409, .int 96 0, .int 1 0, .int 0 0, .int 0 0, .int 3 0, .ref 167, .bool true, .int 181 0, .ref 168, .none, .none, .none, .ref 169, .int 410 0, .int 96 0, .str "/claim/cut.py" 411] }) ::
  (nat_lit 171, fX modL 170 (i := 32) rfl) ::
  (nat_lit 175, { cls := .type "code", data := .fields #[.str "_law_flags" 413, .str "_law_flags" 414, .str "/claim/cut.py" 415, .int 98 0, .int 1 0, .int 0 0, .int 0 0, .int 3 0, .ref 172, .bool true, .int 181 0, .ref 173, .none, .none, .none, .ref 174, .int 416 0, .int 98 0, .str "/claim/cut.py" 417] }) ::
  (nat_lit 176, fX modL 175 (i := 33) rfl) ::
  (nat_lit 180, { cls := .type "code", data := .fields #[.str "_law_kept" 419, .str "_law_kept" 420, .str "/claim/cut.py" 421, .int 101 0, .int 2 0, .int 0 0, .int 0 0, .int 3 0, .ref 177, .bool true, .int 181 0, .ref 178, .none, .none, .none, .ref 179, .int 422 0, .int 101 0, .str "/claim/cut.py" 423] }) ::
  (nat_lit 181, fX modL 180 (i := 34) rfl) ::
  (nat_lit 187, { cls := .type "code", data := .fields #[.str "_law_of" 425, .str "_law_of" 426, .str "/claim/cut.py" 427, .int 104 0, .int 1 0, .int 0 0, .int 0 0, .int 3 0, .ref 182, .bool true, .int 181 0, .ref 183, .none, .ref 184, .ref 185, .ref 186, .int 429 0, .int 104 0, .str "/claim/cut.py" 430] }) ::
  (nat_lit 188, fX modL 187 (i := 35) rfl) ::
  (nat_lit 194, { cls := .type "code", data := .fields #[.str "_law_sum" 432, .str "_law_sum" 433, .str "/claim/cut.py" 434, .int 106 0, .int 5 0, .int 0 0, .int 0 0, .int 3 0, .ref 189, .bool true, .int 181 0, .ref 190, .none, .ref 191, .ref 192, .ref 193, .int 445 0, .int 106 0, .str "/claim/cut.py" 446] }) ::
  (nat_lit 195, fX modL 194 (i := 36) rfl) ::
  (nat_lit 199, { cls := .type "code", data := .fields #[.str "_law_order_due" 448, .str "_law_order_due" 449, .str "/claim/cut.py" 450, .int 113 0, .int 4 0, .int 0 0, .int 0 0, .int 3 0, .ref 196, .bool true, .int 181 0, .ref 197, .none, .none, .none, .ref 198, .int 451 0, .int 113 0, .str "/claim/cut.py" 452] }) ::
  (nat_lit 200, fX modL 199 (i := 37) rfl) ::
  (nat_lit 206, { cls := .type "code", data := .fields #[.str "_law_step_due" 454, .str "_law_step_due" 455, .str "/claim/cut.py" 456, .int 127 0, .int 3 0, .int 0 0, .int 0 0, .int 3 0, .ref 201, .bool true, .int 181 0, .ref 202, .none, .ref 203, .ref 204, .ref 205, .int 465 0, .int 127 0, .str "/claim/cut.py" 466] }) ::
  (nat_lit 207, fX modL 206 (i := 38) rfl) ::
  (nat_lit 213, { cls := .type "code", data := .fields #[.str "_law_words_due" 468, .str "_law_words_due" 469, .str "/claim/cut.py" 470, .int 132 0, .int 4 0, .int 0 0, .int 0 0, .int 3 0, .ref 208, .bool true, .int 181 0, .ref 209, .none, .ref 210, .ref 211, .ref 212, .int 481 0, .int 132 0, .str "/claim/cut.py" 482] }) ::
  (nat_lit 214, fX modL 213 (i := 39) rfl) ::
  (nat_lit 218, { cls := .type "code", data := .fields #[.str "law" 484, .str "law" 485, .str "/claim/cut.py" 486, .int 141 0, .int 1 0, .int 0 0, .int 0 0, .int 3 0, .ref 215, .bool true, .int 181 0, .ref 216, .none, .none, .none, .ref 217, .int 487 0, .int 141 0, .str "/claim/cut.py" 488] }) ::
  (nat_lit 219, fX modL 218 (i := 40) rfl) :: []
abbrev asF : List Addr := [2, 3, 20, 21, 27, 28, 34, 35, 41, 42, 48, 49, 55, 56, 62, 63, 69, 70, 76, 77, 83, 84, 90, 91, 97, 98, 104, 105, 111, 112, 118, 119, 125, 126, 132, 133, 137, 138, 144, 145, 151, 152, 158, 159, 165, 166, 170, 171, 175, 176, 180, 181, 187, 188, 194, 195, 199, 200, 206, 207, 213, 214, 218, 219]
noncomputable def view : Program := PySem.W.view PySem.Challenge.rw_nz0560_01.row.prog [1, 2, 3, 4, 5, 6, 7, 8, 9, 10, 11, 12, 13, 14, 15, 16, 17, 18, 19, 20, 21, 22, 23, 24, 25, 27, 28, 29, 30, 31, 32, 33, 34, 35, 36, 37, 38, 39, 40]
theorem hks : ∀ P, asF = (KF P).map (·.1) := fun _ => by kernel_rfl
end Mine
end
section
open PySem PySem.W PySem.Builtin PyProof.Rows
namespace Mine

/-- a flag byte, flag by flag -/
def fl (s z y h x v n c : Bool) : Int :=
  (if s then 128 else 0) + (if z then 64 else 0) + (if y then 32 else 0) + (if h then 16 else 0) + (if x then 8 else 0) + (if v then 4 else 0) + (if n then 2 else 0) + (if c then 1 else 0)

/-- bit k of an int -/
def bt (k : Nat) (x : Int) : Bool := decide (x / 2 ^ k % 2 = 1)

theorem and_halves (x y : Int) : bitAnd x y = 2 * bitAnd (x / 2) (y / 2) + (if x % 2 = 1 ∧ y % 2 = 1 then 1 else 0) := kbt_halves x y
theorem or_and (x y : Int) : bitOr x y = x + y - bitAnd x y := by
  have h := bitXor_and x y
  unfold bitXor at h
  omega
theorem and_bit (k : Nat) : ∀ x y : Int, bt k (bitAnd x y) = (bt k x && bt k y) := by
  induction k with
  | zero =>
    intro x y
    have h := and_halves x y
    unfold bt
    simp only [Int.pow_zero, Int.ediv_one]
    rw [h]
    split <;> rename_i q <;> simp <;> omega
  | succ k ih =>
    intro x y
    have h := and_halves x y
    have e : ∀ z : Int, bt (k + 1) z = bt k (z / 2) := by
      intro z
      unfold bt
      rw [Int.ediv_ediv_of_nonneg (by decide), Int.pow_succ, Int.mul_comm]
    rw [e, e, e, ← ih]
    congr 1
    rw [h]
    split <;> omega
theorem bt_cases (k : Nat) (x : Int) : x / 2 ^ k % 2 = if bt k x then 1 else 0 := by
  unfold bt
  have := Int.emod_two_eq (x / 2 ^ k)
  rcases this with h | h <;> simp [h]
theorem bt_zero (x : Int) : x % 2 = if bt 0 x then 1 else 0 := by
  have := bt_cases 0 x
  simpa using this
theorem bt_succ (k : Nat) (z : Int) : bt (k + 1) z = bt k (z / 2) := by
  unfold bt
  rw [Int.ediv_ediv_of_nonneg (by decide), Int.pow_succ, Int.mul_comm]
theorem xor_halves (x y : Int) : bitXor x y = 2 * bitXor (x / 2) (y / 2) + (if x % 2 = y % 2 then 0 else 1) := by
  rw [bitXor_and, bitXor_and, and_halves x y]
  split <;> split <;> omega
theorem or_halves (x y : Int) : bitOr x y = 2 * bitOr (x / 2) (y / 2) + (if x % 2 = 0 ∧ y % 2 = 0 then 0 else 1) := by
  rw [or_and, or_and, and_halves x y]
  split <;> split <;> omega
theorem xor_bit (k : Nat) : ∀ x y : Int, bt k (bitXor x y) = (bt k x != bt k y) := by
  induction k with
  | zero =>
    intro x y
    have h := xor_halves x y
    have h1 := bt_zero x
    have h2 := bt_zero y
    have h3 := bt_zero (bitXor x y)
    cases hx : bt 0 x <;> cases hy : bt 0 y <;> cases hz : bt 0 (bitXor x y) <;> simp [hx, hy, hz] at h1 h2 h3 ⊢ <;> simp [h1, h2] at h <;> omega
  | succ k ih =>
    intro x y
    have h := xor_halves x y
    rw [bt_succ, bt_succ, bt_succ, ← ih]
    congr 1
    rw [h]
    split <;> omega
theorem or_bit (k : Nat) : ∀ x y : Int, bt k (bitOr x y) = (bt k x || bt k y) := by
  induction k with
  | zero =>
    intro x y
    have h := or_halves x y
    have h1 := bt_zero x
    have h2 := bt_zero y
    have h3 := bt_zero (bitOr x y)
    cases hx : bt 0 x <;> cases hy : bt 0 y <;> cases hz : bt 0 (bitOr x y) <;> simp [hx, hy, hz] at h1 h2 h3 ⊢ <;> simp [h1, h2] at h <;> omega
  | succ k ih =>
    intro x y
    have h := or_halves x y
    rw [bt_succ, bt_succ, bt_succ, ← ih]
    congr 1
    rw [h]
    split <;> omega
theorem fl_lt (s z y h x v n c : Bool) : 0 ≤ fl s z y h x v n c ∧ fl s z y h x v n c < 256 := by
  revert s z y h x v n c; decide +kernel
theorem bt_fl7 (s z y h x v n c : Bool) : bt 7 (fl s z y h x v n c) = s := by
  revert s z y h x v n c; decide +kernel
theorem bt_fl6 (s z y h x v n c : Bool) : bt 6 (fl s z y h x v n c) = z := by
  revert s z y h x v n c; decide +kernel
theorem bt_fl5 (s z y h x v n c : Bool) : bt 5 (fl s z y h x v n c) = y := by
  revert s z y h x v n c; decide +kernel
theorem bt_fl4 (s z y h x v n c : Bool) : bt 4 (fl s z y h x v n c) = h := by
  revert s z y h x v n c; decide +kernel
theorem bt_fl3 (s z y h x v n c : Bool) : bt 3 (fl s z y h x v n c) = x := by
  revert s z y h x v n c; decide +kernel
theorem bt_fl2 (s z y h x v n c : Bool) : bt 2 (fl s z y h x v n c) = v := by
  revert s z y h x v n c; decide +kernel
theorem bt_fl1 (s z y h x v n c : Bool) : bt 1 (fl s z y h x v n c) = n := by
  revert s z y h x v n c; decide +kernel
theorem bt_fl0 (s z y h x v n c : Bool) : bt 0 (fl s z y h x v n c) = c := by
  revert s z y h x v n c; decide +kernel
theorem byte_all : ∀ x : Fin 256, (x.val : Int) = fl (bt 7 (x.val : Int)) (bt 6 (x.val : Int)) (bt 5 (x.val : Int)) (bt 4 (x.val : Int)) (bt 3 (x.val : Int)) (bt 2 (x.val : Int)) (bt 1 (x.val : Int)) (bt 0 (x.val : Int)) := by decide +kernel
/-- a byte is its flags -/
theorem byte_fl (x : Int) (h0 : 0 ≤ x) (h1 : x < 256) : x = fl (bt 7 x) (bt 6 x) (bt 5 x) (bt 4 x) (bt 3 x) (bt 2 x) (bt 1 x) (bt 0 x) := by
  have := byte_all ⟨x.toNat, by omega⟩
  simpa only [Int.toNat_of_nonneg h0] using this
end Mine
end
section
open PySem PySem.W PySem.Builtin PyProof.Rows
namespace Mine
/-- what szyx says of a byte -/
def szF (r : Int) : Int := fl (decide (127 < r)) (decide (r = 0)) (decide (r / 32 % 2 = 1)) false (decide (r / 8 % 2 = 1)) false false false
/-- an even number of set bits -/
def par (v : Int) : Bool := decide ((v % 2 + v / 2 % 2 + v / 4 % 2 + v / 8 % 2 + v / 16 % 2 + v / 32 % 2 + v / 64 % 2 + v / 128 % 2) % 2 = 0)
def aR (m w a b c : Int) : Int := (a + w * (b + c)) % m
def aC (m w a b c : Int) : Bool := !decide (0 ≤ a + w * (b + c) ∧ a + w * (b + c) < m)
def aH (h w a b c : Int) : Bool := aC h w (a % h) (b % h) c
def sgn (m x : Int) : Int := if m / 2 ≤ x then x - m else x
def aV (m w a b c : Int) : Bool := !decide (-(m / 2) ≤ sgn m a + w * (sgn m b + c) ∧ sgn m a + w * (sgn m b + c) < m / 2)
/-- the flags of an octet's sum -/
def oF (w a b c : Int) : Int := fl (decide (127 < aR 256 w a b c)) (decide (aR 256 w a b c = 0)) (decide (aR 256 w a b c / 32 % 2 = 1)) (aH 16 w a b c) (decide (aR 256 w a b c / 8 % 2 = 1)) (aV 256 w a b c) (decide (w < 0)) (aC 256 w a b c)

theorem sz_all : ∀ v : Fin 256, bitOr (bitAnd (v.val : Int) (bitOr 128 40)) (if v.val = 0 then 64 else 0) = szF v.val := by decide +kernel
theorem sz_0 {v : Int} (h : v = 0) : bitOr (bitAnd v (bitOr 128 40)) 64 = szF v := by subst h; decide +kernel
theorem sz_1 {v : Int} (h0 : 0 ≤ v) (h1 : v < 256) (h : v ≠ 0) : bitOr (bitAnd v (bitOr 128 40)) 0 = szF v := by
  have := sz_all ⟨v.toNat, by omega⟩
  rw [if_neg (by show v.toNat ≠ 0; omega)] at this
  simpa only [Int.toNat_of_nonneg h0] using this
abbrev parX (v : Int) : Int := bitAnd (bitXor (bitXor (bitXor v (v.fdiv (2 ^ Int.toNat 4))) ((bitXor v (v.fdiv (2 ^ Int.toNat 4))).fdiv (2 ^ Int.toNat 2))) ((bitXor (bitXor v (v.fdiv (2 ^ Int.toNat 4))) ((bitXor v (v.fdiv (2 ^ Int.toNat 4))).fdiv (2 ^ Int.toNat 2))).fdiv (2 ^ Int.toNat 1))) 1
theorem par_all : ∀ v : Fin 256, par v.val = decide (parX (v.val : Int) = 0) := by decide +kernel
theorem par_of {v : Int} (h0 : 0 ≤ v) (h1 : v < 256) : par v = decide (parX v = 0) := by
  have := par_all ⟨v.toNat, by omega⟩
  simpa only [Int.toNat_of_nonneg h0] using this
theorem par_1 {v : Int} (h0 : 0 ≤ v) (h1 : v < 256) (h : parX v ≠ 0) : (0 : Int) = if par v then 4 else 0 := by
  rw [par_of h0 h1, decide_eq_false h]; rfl
theorem par_0 {v : Int} (h0 : 0 ≤ v) (h1 : v < 256) (h : parX v = 0) : (4 : Int) = if par v then 4 else 0 := by
  rw [par_of h0 h1, decide_eq_true h]; rfl
theorem and255 (x : Int) : bitAnd x 255 = x % 256 := bitAnd_m8 x
theorem or_bnd (k : Nat) : ∀ {x y : Int}, 0 ≤ x → x < 2 ^ k → 0 ≤ y → y < 2 ^ k → 0 ≤ bitOr x y ∧ bitOr x y < 2 ^ k := by
  induction k with
  | zero =>
    intro x y a b c d
    have : x = 0 := by simp at b; omega
    have : y = 0 := by simp at d; omega
    subst x y
    decide +kernel
  | succ k ih =>
    intro x y a b c d
    rw [Int.pow_succ] at b d ⊢
    have h := or_halves x y
    have q := ih (x := x / 2) (y := y / 2) (by omega) (by omega) (by omega) (by omega)
    rw [h]
    split <;> omega
theorem xor_bnd (k : Nat) : ∀ {x y : Int}, 0 ≤ x → x < 2 ^ k → 0 ≤ y → y < 2 ^ k → 0 ≤ bitXor x y ∧ bitXor x y < 2 ^ k := by
  induction k with
  | zero =>
    intro x y a b c d
    have : x = 0 := by simp at b; omega
    have : y = 0 := by simp at d; omega
    subst x y
    decide +kernel
  | succ k ih =>
    intro x y a b c d
    rw [Int.pow_succ] at b d ⊢
    have h := xor_halves x y
    have q := ih (x := x / 2) (y := y / 2) (by omega) (by omega) (by omega) (by omega)
    rw [h]
    split <;> omega
theorem or_byte {x y : Int} (a : 0 ≤ x) (b : x < 256) (c : 0 ≤ y) (d : y < 256) : 0 ≤ bitOr x y ∧ bitOr x y < 256 := or_bnd 8 a b c d
theorem xor_byte {x y : Int} (a : 0 ≤ x) (b : x < 256) (c : 0 ≤ y) (d : y < 256) : 0 ≤ bitXor x y ∧ bitXor x y < 256 := xor_bnd 8 a b c d
theorem and_byte {x y : Int} (c : 0 ≤ y) (d : y < 256) : 0 ≤ bitAnd x y ∧ bitAnd x y < 256 := by
  have := bitAnd_range x c
  omega
theorem and255_byte {x : Int} : 0 ≤ bitAnd x 255 ∧ bitAnd x 255 < 256 := and_byte (by decide) (by decide)
end Mine
end
section
open PySem PySem.W PySem.Builtin PyProof.Rows
namespace Mine
theorem m2 (x : Int) : x % 2 = 0 ∨ x % 2 = 1 := Int.emod_two_eq x
/-- the bit of a sum at a place h: the two bits and what comes up from below -/
theorem e1g (x y c w k : Int) {h : Int} (hh : 0 < h) (hw : w = 1 ∨ w = -1) : ((x + w * (y + c)) % (h * (2 * k))) / h % 2 = (x / h % 2 + y / h % 2 + (x % h + w * (y % h + c)) / h) % 2 := by
  have hn : h ≠ 0 := Int.ne_of_gt hh
  have e : x + w * (y + c) = (x % h + w * (y % h + c)) + h * (x / h + w * (y / h)) := by
    have e1 := Int.emod_add_mul_ediv x h
    have e2 := Int.emod_add_mul_ediv y h
    rcases hw with rfl | rfl <;> (simp only [Int.mul_add h, Int.one_mul, Int.neg_mul, Int.mul_neg]; omega)
  generalize x + w * (y + c) = R at e
  have e3 : R % (h * (2 * k)) + h * (2 * (k * (R / (h * (2 * k))))) = R := by
    have q := Int.emod_add_mul_ediv R (h * (2 * k))
    rw [Int.mul_assoc h, Int.mul_assoc 2] at q
    exact q
  have e4 : R / h = (R % (h * (2 * k))) / h + 2 * (k * (R / (h * (2 * k)))) := by
    have q : R / h = (R % (h * (2 * k)) + h * (2 * (k * (R / (h * (2 * k)))))) / h := by rw [e3]
    rw [q, Int.add_mul_ediv_left _ _ hn]
  have e5 : R / h = (x % h + w * (y % h + c)) / h + (x / h + w * (y / h)) := by
    rw [e, Int.add_mul_ediv_left _ _ hn]
  generalize (x % h + w * (y % h + c)) / h = z at e5 ⊢
  generalize (R % (h * (2 * k))) / h = t at e4 ⊢
  generalize k * (R / (h * (2 * k))) = r at e4
  generalize R / h = q at e4 e5
  generalize x / h = u at e5 ⊢
  generalize y / h = v at e5 ⊢
  rcases hw with rfl | rfl <;> omega
theorem e2g {S h : Int} (hh : 0 < h) : (0 ≤ S ∧ S < h) ↔ S / h = 0 := by
  constructor
  · rintro ⟨a, b⟩
    exact Int.ediv_eq_zero_of_lt a b
  · intro q
    have e := Int.emod_add_mul_ediv S h
    rw [q, Int.mul_zero, Int.add_zero] at e
    rw [← e]
    exact ⟨Int.emod_nonneg _ (Int.ne_of_gt hh), Int.emod_lt_of_pos _ hh⟩
/-- X lies in its signed range: its quotient is -1 or 0 -/
theorem e4g {X h q : Int} (hh : 0 < h) (e : X / h = q) : (-h ≤ X ∧ X < h) ↔ (-1 ≤ q ∧ q ≤ 0) := by
  subst e
  rw [Int.le_ediv_iff_mul_le hh]
  have := @Int.ediv_lt_iff_lt_mul X 1 h hh
  constructor
  · rintro ⟨a, b⟩; exact ⟨by omega, by have := this.mpr (by omega); omega⟩
  · rintro ⟨a, b⟩; exact ⟨by omega, by have := this.mp (by omega); omega⟩
/-- what comes up from below is 0, 1 or -1 -/
theorem e3g {x y c w h : Int} (hh : 0 < h) (hw : w = 1 ∨ w = -1) (hc0 : 0 ≤ c) (hc1 : c ≤ 1) : (w = 1 → (x % h + w * (y % h + c)) / h = 0 ∨ (x % h + w * (y % h + c)) / h = 1) ∧ (w = -1 → (x % h + w * (y % h + c)) / h = 0 ∨ (x % h + w * (y % h + c)) / h = -1) := by
  have x0 := Int.emod_nonneg x (Int.ne_of_gt hh)
  have x1 := Int.emod_lt_of_pos x hh
  have y0 := Int.emod_nonneg y (Int.ne_of_gt hh)
  have y1 := Int.emod_lt_of_pos y hh
  generalize x % h = u at *
  generalize y % h = v at *
  constructor
  · rintro rfl
    by_cases q : u + 1 * (v + c) < h
    · exact .inl (Int.ediv_eq_zero_of_lt (by omega) q)
    · right
      have e : u + 1 * (v + c) = (u + (v + c) - h) + h * 1 := by omega
      rw [e, Int.add_mul_ediv_left _ _ (Int.ne_of_gt hh), Int.ediv_eq_zero_of_lt (by omega) (by omega)]
      rfl
  · rintro rfl
    by_cases q : 0 ≤ u + -1 * (v + c)
    · exact .inl (Int.ediv_eq_zero_of_lt q (by omega))
    · right
      have e : u + -1 * (v + c) = (u - (v + c) + h) + h * (-1) := by omega
      rw [e, Int.add_mul_ediv_left _ _ (Int.ne_of_gt hh), Int.ediv_eq_zero_of_lt (by omega) (by omega)]
      rfl
end Mine
end
section
open PySem PySem.W PySem.Builtin PyProof.Rows
namespace Mine
theorem and_pow (x : Int) (k : Nat) : bitAnd x (2 ^ k) = if bt k x then 2 ^ k else 0 := by
  rw [kbt_bit, bt_cases]
  cases bt k x <;> simp
theorem and16 (x : Int) : bitAnd x 16 = if bt 4 x then 16 else 0 := and_pow x 4
theorem and128 (x : Int) : bitAnd x 128 = if bt 7 x then 128 else 0 := and_pow x 7
theorem and128_ne (x : Int) : bitAnd x 128 ≠ 0 ↔ bt 7 x = true := by
  rw [and128]
  cases bt 7 x <;> simp
theorem bt4 (x : Int) : bt 4 x = decide (x / 16 % 2 = 1) := rfl
theorem bt7 (x : Int) : bt 7 x = decide (x / 128 % 2 = 1) := rfl
theorem fdiv8 (x : Int) : x.fdiv (2 ^ Int.toNat 8) = x / 256 := Int.fdiv_eq_ediv_of_nonneg x (by decide)
theorem fdiv16 (x : Int) : x.fdiv (2 ^ Int.toNat 16) = x / 65536 := Int.fdiv_eq_ediv_of_nonneg x (by decide)
/-- the byte put together by | -/
theorem fl_or (s z y x h v c : Bool) : bitOr (bitOr (bitOr (fl s z y false x false false false) (if h then 16 else 0)) (if v then 4 else 0)) (if c then 1 else 0) = fl s z y h x v false c := by
  revert s z y x h v c
  decide +kernel
theorem fl_orN (s z y x h v c : Bool) : bitOr (bitOr (bitOr (bitOr (fl s z y false x false false false) (if h then 16 else 0)) (if v then 4 else 0)) 2) (if c then 1 else 0) = fl s z y h x v true c := by
  revert s z y x h v c
  decide +kernel
theorem hfin {p q K : Int} (hp : p = 0 ∨ p = 1) (hq : q = 0 ∨ q = 1) (hK : K = 0 ∨ K = 1 ∨ K = -1) : ((decide (p = 1) != decide (q = 1)) != decide ((p + q + K) % 2 = 1)) = !decide (K = 0) := by
  rcases hp with rfl | rfl <;> rcases hq with rfl | rfl <;> rcases hK with rfl | rfl | rfl <;> decide
theorem vfin_add {p q K : Int} (hp : p = 0 ∨ p = 1) (hq : q = 0 ∨ q = 1) (hK : K = 0 ∨ K = 1) : ((decide (p = 1) != decide ((p + q + K) % 2 = 1)) && (decide (q = 1) != decide ((p + q + K) % 2 = 1))) = !decide (-1 ≤ K - (p + q) ∧ K - (p + q) ≤ 0) := by
  rcases hp with rfl | rfl <;> rcases hq with rfl | rfl <;> rcases hK with rfl | rfl <;> decide
theorem vfin_sub {p q K : Int} (hp : p = 0 ∨ p = 1) (hq : q = 0 ∨ q = 1) (hK : K = 0 ∨ K = -1) : ((decide (p = 1) != decide (q = 1)) && (decide (p = 1) != decide ((p + q + K) % 2 = 1))) = !decide (-1 ≤ K - (p - q) ∧ K - (p - q) ≤ 0) := by
  rcases hp with rfl | rfl <;> rcases hq with rfl | rfl <;> rcases hK with rfl | rfl <;> decide
theorem sgn256_eq {x : Int} (h0 : 0 ≤ x) (h1 : x < 256) : sgn 256 x = x % 128 - 128 * (x / 128 % 2) := by
  unfold sgn; split <;> omega
set_option linter.unusedSectionVars false
section
variable {a b c : Int} (ha0 : 0 ≤ a) (ha1 : a < 256) (hb0 : 0 ≤ b) (hb1 : b < 256) (hc0 : 0 ≤ c) (hc1 : c ≤ 1)
include ha0 ha1 hb0 hb1 hc0 hc1
theorem add8_r : bitAnd (a + b + c) 255 = aR 256 1 a b c := by
  rw [and255]; unfold aR; congr 1; omega
theorem add8_h : bitAnd (bitXor (bitXor a b) (aR 256 1 a b c)) 16 = if aH 16 1 a b c then 16 else 0 := by
  rw [and16, xor_bit, xor_bit, bt4, bt4, bt4]
  have e : ((decide (a / 16 % 2 = 1) != decide (b / 16 % 2 = 1)) != decide (aR 256 1 a b c / 16 % 2 = 1)) = aH 16 1 a b c := by
    unfold aH aC aR
    have e1 : (a + 1 * (b + c)) % 256 / 16 % 2 = (a / 16 % 2 + b / 16 % 2 + (a % 16 + 1 * (b % 16 + c)) / 16) % 2 := e1g a b c (1) 8 (h := 16) (by decide) (.inl rfl)
    have e3 : (a % 16 + 1 * (b % 16 + c)) / 16 = 0 ∨ (a % 16 + 1 * (b % 16 + c)) / 16 = 1 ∨ (a % 16 + 1 * (b % 16 + c)) / 16 = -1 := by
      have q := (e3g (x := a) (y := b) (w := 1) (h := 16) (by decide) (.inl rfl) hc0 hc1).1 rfl
      rcases q with q | q
      · exact .inl q
      · exact .inr (.inl q)
    rw [e1, hfin (m2 _) (m2 _) e3, decide_eq_decide.mpr (e2g (by decide))]
  rw [e]
theorem add8_v : bt 7 (bitAnd (bitXor a (aR 256 1 a b c)) (bitXor b (aR 256 1 a b c))) = aV 256 1 a b c := by
  rw [and_bit, xor_bit, xor_bit, bt7, bt7, bt7]
  unfold aV aR
  rw [sgn256_eq ha0 ha1, sgn256_eq hb0 hb1]
  have e1 : (a + 1 * (b + c)) % 256 / 128 % 2 = (a / 128 % 2 + b / 128 % 2 + (a % 128 + 1 * (b % 128 + c)) / 128) % 2 := e1g a b c (1) 1 (h := 128) (by decide) (.inl rfl)
  have e0 : (a % 128 - 128 * (a / 128 % 2) + 1 * (b % 128 - 128 * (b / 128 % 2) + c)) / 128 = (a % 128 + 1 * (b % 128 + c)) / 128 - (a / 128 % 2 + b / 128 % 2) := by
    have z : a % 128 - 128 * (a / 128 % 2) + 1 * (b % 128 - 128 * (b / 128 % 2) + c) = (a % 128 + 1 * (b % 128 + c)) + 128 * (-(a / 128 % 2 + b / 128 % 2)) := by omega
    rw [z, Int.add_mul_ediv_left _ _ (by decide)]
    omega
  have e3 := (e3g (x := a) (y := b) (w := 1) (h := 128) (by decide) (.inl rfl) hc0 hc1).1 rfl
  rw [e1, vfin_add (m2 _) (m2 _) e3]
  exact congrArg (! ·) (decide_eq_decide.mpr (e4g (by decide) e0)).symm
theorem add8_c : (a + b + c).fdiv (2 ^ Int.toNat 8) = if aC 256 1 a b c then 1 else 0 := by
  rw [fdiv8]
  unfold aC
  by_cases h : 0 ≤ a + 1 * (b + c) ∧ a + 1 * (b + c) < 256
  · rw [decide_eq_true h]; simp; omega
  · rw [decide_eq_false h]; simp; omega
theorem add8_1 (h : bitAnd (bitAnd (bitXor a (bitAnd (a + b + c) 255)) (bitXor b (bitAnd (a + b + c) 255))) 128 ≠ 0) :
    bitOr (bitOr (bitOr (szF (bitAnd (a + b + c) 255)) (bitAnd (bitXor (bitXor a b) (bitAnd (a + b + c) 255)) 16)) 4) ((a + b + c).fdiv (2 ^ Int.toNat 8)) = oF 1 a b c := by
  rw [add8_r ha0 ha1 hb0 hb1 hc0 hc1] at h ⊢
  rw [and128_ne, add8_v ha0 ha1 hb0 hb1 hc0 hc1] at h
  rw [add8_h ha0 ha1 hb0 hb1 hc0 hc1, add8_c ha0 ha1 hb0 hb1 hc0 hc1]
  unfold szF oF
  have := fl_or (decide (127 < aR 256 1 a b c)) (decide (aR 256 1 a b c = 0)) (decide (aR 256 1 a b c / 32 % 2 = 1)) (decide (aR 256 1 a b c / 8 % 2 = 1)) (aH 16 1 a b c) true (aC 256 1 a b c)
  rw [h]
  simpa using this
theorem add8_0 (h : bitAnd (bitAnd (bitXor a (bitAnd (a + b + c) 255)) (bitXor b (bitAnd (a + b + c) 255))) 128 = 0) :
    bitOr (bitOr (bitOr (szF (bitAnd (a + b + c) 255)) (bitAnd (bitXor (bitXor a b) (bitAnd (a + b + c) 255)) 16)) 0) ((a + b + c).fdiv (2 ^ Int.toNat 8)) = oF 1 a b c := by
  rw [add8_r ha0 ha1 hb0 hb1 hc0 hc1] at h ⊢
  have h' : aV 256 1 a b c = false := by
    rw [← add8_v ha0 ha1 hb0 hb1 hc0 hc1]
    cases hq : bt 7 _ with
    | false => rfl
    | true => exact absurd h ((and128_ne _).mpr hq)
  rw [add8_h ha0 ha1 hb0 hb1 hc0 hc1, add8_c ha0 ha1 hb0 hb1 hc0 hc1]
  unfold szF oF
  have := fl_or (decide (127 < aR 256 1 a b c)) (decide (aR 256 1 a b c = 0)) (decide (aR 256 1 a b c / 32 % 2 = 1)) (decide (aR 256 1 a b c / 8 % 2 = 1)) (aH 16 1 a b c) false (aC 256 1 a b c)
  rw [h']
  simpa using this
theorem sub8_r : bitAnd (a - b - c) 255 = aR 256 (-1) a b c := by
  rw [and255]; unfold aR; congr 1; omega
theorem sub8_h : bitAnd (bitXor (bitXor a b) (aR 256 (-1) a b c)) 16 = if aH 16 (-1) a b c then 16 else 0 := by
  rw [and16, xor_bit, xor_bit, bt4, bt4, bt4]
  have e : ((decide (a / 16 % 2 = 1) != decide (b / 16 % 2 = 1)) != decide (aR 256 (-1) a b c / 16 % 2 = 1)) = aH 16 (-1) a b c := by
    unfold aH aC aR
    have e1 : (a + -1 * (b + c)) % 256 / 16 % 2 = (a / 16 % 2 + b / 16 % 2 + (a % 16 + -1 * (b % 16 + c)) / 16) % 2 := e1g a b c (-1) 8 (h := 16) (by decide) (.inr rfl)
    have e3 : (a % 16 + -1 * (b % 16 + c)) / 16 = 0 ∨ (a % 16 + -1 * (b % 16 + c)) / 16 = 1 ∨ (a % 16 + -1 * (b % 16 + c)) / 16 = -1 := by
      have q := (e3g (x := a) (y := b) (w := -1) (h := 16) (by decide) (.inr rfl) hc0 hc1).2 rfl
      rcases q with q | q
      · exact .inl q
      · exact .inr (.inr q)
    rw [e1, hfin (m2 _) (m2 _) e3, decide_eq_decide.mpr (e2g (by decide))]
  rw [e]
theorem sub8_v : bt 7 (bitAnd (bitXor a b) (bitXor a (aR 256 (-1) a b c))) = aV 256 (-1) a b c := by
  rw [and_bit, xor_bit, xor_bit, bt7, bt7, bt7]
  unfold aV aR
  rw [sgn256_eq ha0 ha1, sgn256_eq hb0 hb1]
  have e1 : (a + -1 * (b + c)) % 256 / 128 % 2 = (a / 128 % 2 + b / 128 % 2 + (a % 128 + -1 * (b % 128 + c)) / 128) % 2 := e1g a b c (-1) 1 (h := 128) (by decide) (.inr rfl)
  have e0 : (a % 128 - 128 * (a / 128 % 2) + -1 * (b % 128 - 128 * (b / 128 % 2) + c)) / 128 = (a % 128 + -1 * (b % 128 + c)) / 128 - (a / 128 % 2 - b / 128 % 2) := by
    have z : a % 128 - 128 * (a / 128 % 2) + -1 * (b % 128 - 128 * (b / 128 % 2) + c) = (a % 128 + -1 * (b % 128 + c)) + 128 * (-(a / 128 % 2 - b / 128 % 2)) := by omega
    rw [z, Int.add_mul_ediv_left _ _ (by decide)]
    omega
  have e3 := (e3g (x := a) (y := b) (w := -1) (h := 128) (by decide) (.inr rfl) hc0 hc1).2 rfl
  rw [e1, vfin_sub (m2 _) (m2 _) e3]
  exact congrArg (! ·) (decide_eq_decide.mpr (e4g (by decide) e0)).symm
theorem sub8_c : aC 256 (-1) a b c = decide (a - b - c < 0) := by
  unfold aC
  by_cases h : a - b - c < 0
  · rw [decide_eq_true h, decide_eq_false (by omega)]; rfl
  · rw [decide_eq_false h, decide_eq_true (by omega)]; rfl
/-- the four ways of a difference -/
theorem sub8_f (v cc : Bool) (hv : decide (bitAnd (bitAnd (bitXor a b) (bitXor a (bitAnd (a - b - c) 255))) 128 ≠ 0) = v) (hc : decide (a - b - c < 0) = cc) :
    bitOr (bitOr (bitOr (bitOr (szF (bitAnd (a - b - c) 255)) (bitAnd (bitXor (bitXor a b) (bitAnd (a - b - c) 255)) 16)) (if v then 4 else 0)) 2) (if cc then 1 else 0) = oF (-1) a b c := by
  rw [sub8_r ha0 ha1 hb0 hb1 hc0 hc1] at hv ⊢
  have hv' : aV 256 (-1) a b c = v := by
    rw [← sub8_v ha0 ha1 hb0 hb1 hc0 hc1, ← hv]
    cases hq : bt 7 _ with
    | false => exact (decide_eq_false fun hn => by rw [(and128_ne _).mp hn] at hq; cases hq).symm
    | true => exact (decide_eq_true ((and128_ne _).mpr hq)).symm
  rw [sub8_h ha0 ha1 hb0 hb1 hc0 hc1, ← hc, ← sub8_c ha0 ha1 hb0 hb1 hc0 hc1, ← hv']
  unfold szF oF
  exact fl_orN _ _ _ _ _ _ _
theorem sub8_tt (h : bitAnd (bitAnd (bitXor a b) (bitXor a (bitAnd (a - b - c) 255))) 128 ≠ 0) (k : a - b - c < 0) : bitOr (bitOr (bitOr (bitOr (szF (bitAnd (a - b - c) 255)) (bitAnd (bitXor (bitXor a b) (bitAnd (a - b - c) 255)) 16)) 4) 2) 1 = oF (-1) a b c := by
  have q := sub8_f ha0 ha1 hb0 hb1 hc0 hc1 true true (decide_eq_true h) (decide_eq_true k)
  simp only [if_true, Bool.false_eq_true, if_false] at q
  exact q
theorem sub8_tf (h : bitAnd (bitAnd (bitXor a b) (bitXor a (bitAnd (a - b - c) 255))) 128 ≠ 0) (k : ¬a - b - c < 0) : bitOr (bitOr (bitOr (bitOr (szF (bitAnd (a - b - c) 255)) (bitAnd (bitXor (bitXor a b) (bitAnd (a - b - c) 255)) 16)) 4) 2) 0 = oF (-1) a b c := by
  have q := sub8_f ha0 ha1 hb0 hb1 hc0 hc1 true false (decide_eq_true h) (decide_eq_false k)
  simp only [if_true, Bool.false_eq_true, if_false] at q
  exact q
theorem sub8_ft (h : bitAnd (bitAnd (bitXor a b) (bitXor a (bitAnd (a - b - c) 255))) 128 = 0) (k : a - b - c < 0) : bitOr (bitOr (bitOr (bitOr (szF (bitAnd (a - b - c) 255)) (bitAnd (bitXor (bitXor a b) (bitAnd (a - b - c) 255)) 16)) 0) 2) 1 = oF (-1) a b c := by
  have q := sub8_f ha0 ha1 hb0 hb1 hc0 hc1 false true (decide_eq_false (fun hn => hn h)) (decide_eq_true k)
  simp only [if_true, Bool.false_eq_true, if_false] at q
  exact q
theorem sub8_ff (h : bitAnd (bitAnd (bitXor a b) (bitXor a (bitAnd (a - b - c) 255))) 128 = 0) (k : ¬a - b - c < 0) : bitOr (bitOr (bitOr (bitOr (szF (bitAnd (a - b - c) 255)) (bitAnd (bitXor (bitXor a b) (bitAnd (a - b - c) 255)) 16)) 0) 2) 0 = oF (-1) a b c := by
  have q := sub8_f ha0 ha1 hb0 hb1 hc0 hc1 false false (decide_eq_false (fun hn => hn h)) (decide_eq_false k)
  simp only [if_true, Bool.false_eq_true, if_false] at q
  exact q
end
end Mine
end
section
open PySem PySem.W PySem.Builtin PyProof.Rows
set_option linter.unusedSectionVars false
set_option linter.unusedSimpArgs false
namespace Mine
def cpF (a b : Int) : Int := fl (decide (127 < aR 256 (-1) a b 0)) (decide (aR 256 (-1) a b 0 = 0)) (decide (b / 32 % 2 = 1)) (aH 16 (-1) a b 0) (decide (b / 8 % 2 = 1)) (aV 256 (-1) a b 0) true (aC 256 (-1) a b 0)
def lgF (h : Bool) (r : Int) : Int := fl (decide (127 < r)) (decide (r = 0)) (decide (r / 32 % 2 = 1)) h (decide (r / 8 % 2 = 1)) (par r) false false
def stF (w v f : Int) : Int := fl (decide (127 < aR 256 w v 1 0)) (decide (aR 256 w v 1 0 = 0)) (decide (aR 256 w v 1 0 / 32 % 2 = 1)) (aH 16 w v 1 0) (decide (aR 256 w v 1 0 / 8 % 2 = 1)) (aV 256 w v 1 0) (decide (w < 0)) (decide (f % 2 = 1))
theorem fl_cp (s z y h x v n c s' z' y' h' x' v' n' c' : Bool) : bitOr (bitAnd (fl s z y h x v n c) (bitNot 40)) (bitAnd (fl s' z' y' h' x' v' n' c') 40) = fl s z y' h x' v n c := by
  have e1 : bitAnd (fl s z y h x v n c) (bitNot 40) = fl s z false h false v n c := by
    revert s z y h x v n c; decide +kernel
  have e2 : bitAnd (fl s' z' y' h' x' v' n' c') 40 = fl false false y' false x' false false false := by
    revert s' z' y' h' x' v' n' c'; decide +kernel
  rw [e1, e2]
  have e3 : ∀ s z h v n c y' x' : Bool, bitOr (fl s z false h false v n c) (fl false false y' false x' false false false) = fl s z y' h x' v n c := by decide +kernel
  exact e3 ..
theorem cp8_f {a b : Int} (hb0 : 0 ≤ b) (hb1 : b < 256) : bitOr (bitAnd (oF (-1) a b 0) (bitNot 40)) (bitAnd b 40) = cpF a b := by
  have hb := byte_fl b hb0 hb1
  conv => lhs; arg 2; arg 1; rw [hb]
  unfold oF
  rw [fl_cp]
  rfl
theorem fl_lg (h s z y x v : Bool) : bitOr (bitOr (fl s z y false x false false false) (if v then 4 else 0)) 16 = fl s z y true x v false false := by
  revert h s z y x v; decide +kernel
theorem fl_lg0 (s z y x v : Bool) : bitOr (fl s z y false x false false false) (if v then 4 else 0) = fl s z y false x v false false := by
  revert s z y x v; decide +kernel
theorem lg_1 (r : Int) : bitOr (bitOr (szF r) (if par r then 4 else 0)) 16 = lgF true r := fl_lg true _ _ _ _ _
theorem lg_0 (r : Int) : bitOr (szF r) (if par r then 4 else 0) = lgF false r := fl_lg0 _ _ _ _ _
theorem and15 (x : Int) : bitAnd x 15 = x % 16 := bitAnd_m4 x
theorem and1 (x : Int) : bitAnd x 1 = x % 2 := bitAnd_m1 x
section
variable {v f : Int} (h0 : 0 ≤ v) (h1 : v < 256)
include h0 h1
theorem inc_r : bitAnd (v + 1) 255 = aR 256 1 v 1 0 := by
  rw [and255]; unfold aR; congr 1
theorem dec_r : bitAnd (v - 1) 255 = aR 256 (-1) v 1 0 := by
  rw [and255]; unfold aR; congr 1
theorem inc_h : aH 16 1 v 1 0 = decide (bitAnd v 15 = 15) := by
  rw [and15]; unfold aH aC
  by_cases h : v % 16 = 15
  · rw [decide_eq_true h, decide_eq_false (by omega)]; rfl
  · rw [decide_eq_false h, decide_eq_true (by omega)]; rfl
theorem dec_h : aH 16 (-1) v 1 0 = decide (bitAnd v 15 = 0) := by
  rw [and15]; unfold aH aC
  by_cases h : v % 16 = 0
  · rw [decide_eq_true h, decide_eq_false (by omega)]; rfl
  · rw [decide_eq_false h, decide_eq_true (by omega)]; rfl
theorem inc_v : aV 256 1 v 1 0 = decide (v = 127) := by
  unfold aV sgn
  by_cases h : v = 127
  · subst h; decide
  · rw [decide_eq_false h, decide_eq_true (by split <;> split <;> omega)]; rfl
theorem dec_v : aV 256 (-1) v 1 0 = decide (v = 128) := by
  unfold aV sgn
  by_cases h : v = 128
  · subst h; decide
  · rw [decide_eq_false h, decide_eq_true (by split <;> split <;> omega)]; rfl
theorem f_c : bitAnd f 1 = if decide (f % 2 = 1) then 1 else 0 := by
  rw [and1]
  rcases Int.emod_two_eq f with h | h <;> simp [h]
end
theorem inc_f {v f : Int} (h0 : 0 ≤ v) (h1 : v < 256) (hh vv : Bool) (e1 : decide (bitAnd v 15 = 15) = hh) (e2 : decide (v = 127) = vv) :
    bitOr (bitOr (bitOr (szF (bitAnd (v + 1) 255)) (if hh then 16 else 0)) (if vv then 4 else 0)) (bitAnd f 1) = stF 1 v f := by
  rw [inc_r h0 h1, f_c h0 h1, ← e1, ← e2, ← inc_h h0 h1, ← inc_v h0 h1]
  unfold szF stF
  exact fl_or _ _ _ _ _ _ _
theorem dec_f {v f : Int} (h0 : 0 ≤ v) (h1 : v < 256) (hh vv : Bool) (e1 : decide (bitAnd v 15 = 0) = hh) (e2 : decide (v = 128) = vv) :
    bitOr (bitOr (bitOr (bitOr (szF (bitAnd (v - 1) 255)) (if hh then 16 else 0)) (if vv then 4 else 0)) 2) (bitAnd f 1) = stF (-1) v f := by
  rw [dec_r h0 h1, f_c h0 h1, ← e1, ← e2, ← dec_h h0 h1, ← dec_v h0 h1]
  unfold szF stF
  exact fl_orN _ _ _ _ _ _ _
theorem inc_tt {v f : Int} (h0 : 0 ≤ v) (h1 : v < 256) (h : bitAnd v 15 = 15) (k : v = 127) : bitOr (bitOr (bitOr (szF (bitAnd (v + 1) 255)) 16) 4) (bitAnd f 1) = stF 1 v f := by
  have q := inc_f (f := f) h0 h1 true true (decide_eq_true h) (decide_eq_true k)
  simp only [if_true, Bool.false_eq_true, if_false] at q
  exact q
theorem inc_tf {v f : Int} (h0 : 0 ≤ v) (h1 : v < 256) (h : bitAnd v 15 = 15) (k : v ≠ 127) : bitOr (bitOr (bitOr (szF (bitAnd (v + 1) 255)) 16) 0) (bitAnd f 1) = stF 1 v f := by
  have q := inc_f (f := f) h0 h1 true false (decide_eq_true h) (decide_eq_false k)
  simp only [if_true, Bool.false_eq_true, if_false] at q
  exact q
theorem inc_ft {v f : Int} (h0 : 0 ≤ v) (h1 : v < 256) (h : bitAnd v 15 ≠ 15) (k : v = 127) : bitOr (bitOr (bitOr (szF (bitAnd (v + 1) 255)) 0) 4) (bitAnd f 1) = stF 1 v f := by
  have q := inc_f (f := f) h0 h1 false true (decide_eq_false h) (decide_eq_true k)
  simp only [if_true, Bool.false_eq_true, if_false] at q
  exact q
theorem inc_ff {v f : Int} (h0 : 0 ≤ v) (h1 : v < 256) (h : bitAnd v 15 ≠ 15) (k : v ≠ 127) : bitOr (bitOr (bitOr (szF (bitAnd (v + 1) 255)) 0) 0) (bitAnd f 1) = stF 1 v f := by
  have q := inc_f (f := f) h0 h1 false false (decide_eq_false h) (decide_eq_false k)
  simp only [if_true, Bool.false_eq_true, if_false] at q
  exact q
theorem dec_tt {v f : Int} (h0 : 0 ≤ v) (h1 : v < 256) (h : bitAnd v 15 = 0) (k : v = 128) : bitOr (bitOr (bitOr (bitOr (szF (bitAnd (v - 1) 255)) 16) 4) 2) (bitAnd f 1) = stF (-1) v f := by
  have q := dec_f (f := f) h0 h1 true true (decide_eq_true h) (decide_eq_true k)
  simp only [if_true, Bool.false_eq_true, if_false] at q
  exact q
theorem dec_tf {v f : Int} (h0 : 0 ≤ v) (h1 : v < 256) (h : bitAnd v 15 = 0) (k : v ≠ 128) : bitOr (bitOr (bitOr (bitOr (szF (bitAnd (v - 1) 255)) 16) 0) 2) (bitAnd f 1) = stF (-1) v f := by
  have q := dec_f (f := f) h0 h1 true false (decide_eq_true h) (decide_eq_false k)
  simp only [if_true, Bool.false_eq_true, if_false] at q
  exact q
theorem dec_ft {v f : Int} (h0 : 0 ≤ v) (h1 : v < 256) (h : bitAnd v 15 ≠ 0) (k : v = 128) : bitOr (bitOr (bitOr (bitOr (szF (bitAnd (v - 1) 255)) 0) 4) 2) (bitAnd f 1) = stF (-1) v f := by
  have q := dec_f (f := f) h0 h1 false true (decide_eq_false h) (decide_eq_true k)
  simp only [if_true, Bool.false_eq_true, if_false] at q
  exact q
theorem dec_ff {v f : Int} (h0 : 0 ≤ v) (h1 : v < 256) (h : bitAnd v 15 ≠ 0) (k : v ≠ 128) : bitOr (bitOr (bitOr (bitOr (szF (bitAnd (v - 1) 255)) 0) 0) 2) (bitAnd f 1) = stF (-1) v f := by
  have q := dec_f (f := f) h0 h1 false false (decide_eq_false h) (decide_eq_false k)
  simp only [if_true, Bool.false_eq_true, if_false] at q
  exact q
theorem and1_lo (x : Int) : 0 ≤ bitAnd x 1 := by rw [and1]; omega
theorem and1_hi (x : Int) : bitAnd x 1 ≤ 1 := by rw [and1]; omega
def ordR (n a b f : Int) : Int := if n < 2 then aR 256 1 a b (if n = 1 then f % 2 else 0) else if n < 4 then aR 256 (-1) a b (if n = 3 then f % 2 else 0) else if n = 4 then bitAnd a b else if n = 5 then bitXor a b else if n = 6 then bitOr a b else a
def ordF (n a b f : Int) : Int := if n < 2 then oF 1 a b (if n = 1 then f % 2 else 0) else if n < 4 then oF (-1) a b (if n = 3 then f % 2 else 0) else if n = 4 then lgF true (bitAnd a b) else if n = 5 then lgF false (bitXor a b) else if n = 6 then lgF false (bitOr a b) else cpF a b
theorem mod2_lo (x : Int) : 0 ≤ x % 2 := Int.emod_nonneg x (by decide)
theorem mod2_hi (x : Int) : x % 2 ≤ 1 := by omega
theorem aR_lo {w a b c : Int} : 0 ≤ aR 256 w a b c := Int.emod_nonneg _ (by decide)
theorem aR_hi {w a b c : Int} : aR 256 w a b c < 256 := Int.emod_lt_of_pos _ (by decide)
end Mine
end
section
open PySem PySem.W PySem.Builtin PyProof.Rows
set_option linter.unusedSectionVars false
set_option linter.unusedSimpArgs false
namespace Mine
/-- the flags that high_flags gives -/
def hiF (x y r : Int) : Int := fl false false (decide (r / 256 / 32 % 2 = 1)) ((bt 12 x != bt 12 y) != bt 12 r) (decide (r / 256 / 8 % 2 = 1)) false false false
def wzF (r : Int) : Int := fl (decide (32767 < r)) (decide (r = 0)) false false false false false false
def a16F (x y f : Int) : Int := fl (decide (f / 128 % 2 = 1)) (decide (f / 64 % 2 = 1)) (decide (aR 65536 1 x y 0 / 256 / 32 % 2 = 1)) (aH 4096 1 x y 0) (decide (aR 65536 1 x y 0 / 256 / 8 % 2 = 1)) (decide (f / 4 % 2 = 1)) false (aC 65536 1 x y 0)
def wdF (w x y c : Int) : Int := fl (decide (32767 < aR 65536 w x y c)) (decide (aR 65536 w x y c = 0)) (decide (aR 65536 w x y c / 256 / 32 % 2 = 1)) (aH 4096 w x y c) (decide (aR 65536 w x y c / 256 / 8 % 2 = 1)) (aV 65536 w x y c) (decide (w < 0)) (aC 65536 w x y c)
theorem and40 (z : Int) : bitAnd z 40 = fl false false (bt 5 z) false (bt 3 z) false false false := by
  have h := bitAnd_range z (y := 40) (by decide)
  rw [byte_fl (bitAnd z 40) h.1 (by omega)]
  simp only [and_bit, show bt 7 40 = false from by decide, show bt 6 40 = false from by decide, show bt 5 40 = true from by decide, show bt 4 40 = false from by decide, show bt 3 40 = true from by decide, show bt 2 40 = false from by decide, show bt 1 40 = false from by decide, show bt 0 40 = false from by decide, Bool.and_false, Bool.and_true]
theorem and196 (z : Int) : bitAnd z 196 = fl (bt 7 z) (bt 6 z) false false false (bt 2 z) false false := by
  have h := bitAnd_range z (y := 196) (by decide)
  rw [byte_fl (bitAnd z 196) h.1 (by omega)]
  simp only [and_bit, show bt 7 196 = true from by decide, show bt 6 196 = true from by decide, show bt 5 196 = false from by decide, show bt 4 196 = false from by decide, show bt 3 196 = false from by decide, show bt 2 196 = true from by decide, show bt 1 196 = false from by decide, show bt 0 196 = false from by decide, Bool.and_false, Bool.and_true]
theorem bt_256 (k : Nat) (z : Int) : bt k (z / 256) = bt (k + 8) z := by
  unfold bt
  rw [Int.ediv_ediv_of_nonneg (by decide), Int.pow_add, Int.mul_comm]
  rfl
theorem fl_hi (y h x : Bool) : bitOr (fl false false y false x false false false) (if h then 16 else 0) = fl false false y h x false false false := by
  revert y h x; decide +kernel
theorem hi_eq (x y r : Int) : bitOr (bitAnd (r.fdiv (2 ^ Int.toNat 8)) 40) (bitAnd ((bitXor (bitXor x y) r).fdiv (2 ^ Int.toNat 8)) 16) = hiF x y r := by
  rw [fdiv8, fdiv8, and40, and16, bt_256 4, xor_bit, xor_bit, fl_hi]
  rfl
theorem fl_wz (s z : Bool) : bitOr (if s then 128 else 0) (if z then 64 else 0) = fl s z false false false false false false := by
  revert s z; decide +kernel
theorem wz_eq {r : Int} (h0 : 0 ≤ r) (h1 : r < 65536) (z : Bool) (hz : decide (r = 0) = z) : bitOr (bitAnd (r.fdiv (2 ^ Int.toNat 8)) 128) (if z then 64 else 0) = wzF r := by
  have e : bt 7 (r / 256) = decide (32767 < r) := by
    rw [bt7]
    by_cases h : 32767 < r
    · rw [decide_eq_true h, decide_eq_true (by omega)]
    · rw [decide_eq_false h, decide_eq_false (by omega)]
  rw [fdiv8, and128, e, fl_wz, ← hz]
  rfl
theorem wz_1 {r : Int} (h0 : 0 ≤ r) (h1 : r < 65536) (h : r = 0) : bitOr (bitAnd (r.fdiv (2 ^ Int.toNat 8)) 128) 64 = wzF r := by
  have q := wz_eq h0 h1 true (decide_eq_true h)
  simp only [if_true] at q
  exact q
theorem wz_0 {r : Int} (h0 : 0 ≤ r) (h1 : r < 65536) (h : r ≠ 0) : bitOr (bitAnd (r.fdiv (2 ^ Int.toNat 8)) 128) 0 = wzF r := by
  have q := wz_eq h0 h1 false (decide_eq_false h)
  simp only [Bool.false_eq_true, if_false] at q
  exact q
theorem and65535 (x : Int) : bitAnd x 65535 = x % 65536 := bitAnd_m16 x
theorem and65535_word {x : Int} : 0 ≤ bitAnd x 65535 ∧ bitAnd x 65535 < 65536 := by rw [and65535]; omega
theorem fl_a16 (s z y h x v c : Bool) : bitOr (bitOr (fl s z false false false v false false) (fl false false y h x false false false)) (if c then 1 else 0) = fl s z y h x v false c := by
  revert s z y h x v c; decide +kernel
theorem fl_adc (s z y h x v c : Bool) : bitOr (bitOr (bitOr (fl s z false false false false false false) (fl false false y h x false false false)) (if v then 4 else 0)) (if c then 1 else 0) = fl s z y h x v false c := by
  revert s z y h x v c; decide +kernel
theorem fl_sbc (s z y h x v c : Bool) : bitOr (bitOr (bitOr (bitOr (fl s z false false false false false false) (fl false false y h x false false false)) (if v then 4 else 0)) 2) (if c then 1 else 0) = fl s z y h x v true c := by
  revert s z y h x v c; decide +kernel
theorem and32768_ne (x : Int) : bitAnd x 32768 ≠ 0 ↔ bt 15 x = true := by
  have : bitAnd x 32768 = if bt 15 x then 32768 else 0 := and_pow x 15
  rw [this]
  cases bt 15 x <;> simp
theorem bt12 (x : Int) : bt 12 x = decide (x / 4096 % 2 = 1) := rfl
theorem bt15 (x : Int) : bt 15 x = decide (x / 32768 % 2 = 1) := rfl
theorem sgn65536_eq {x : Int} (h0 : 0 ≤ x) (h1 : x < 65536) : sgn 65536 x = x % 32768 - 32768 * (x / 32768 % 2) := by
  unfold sgn; split <;> omega
section
variable {x y c : Int} (hx0 : 0 ≤ x) (hx1 : x < 65536) (hy0 : 0 ≤ y) (hy1 : y < 65536) (hc0 : 0 ≤ c) (hc1 : c ≤ 1)
include hx0 hx1 hy0 hy1 hc0 hc1
theorem add16_h : ((bt 12 x != bt 12 y) != bt 12 (aR 65536 1 x y c)) = aH 4096 1 x y c := by
  rw [bt12, bt12, bt12]
  unfold aH aC aR
  have e1 : (x + 1 * (y + c)) % 65536 / 4096 % 2 = (x / 4096 % 2 + y / 4096 % 2 + (x % 4096 + 1 * (y % 4096 + c)) / 4096) % 2 := e1g x y c (1) 8 (h := 4096) (by decide) (.inl rfl)
  have e3 : (x % 4096 + 1 * (y % 4096 + c)) / 4096 = 0 ∨ (x % 4096 + 1 * (y % 4096 + c)) / 4096 = 1 ∨ (x % 4096 + 1 * (y % 4096 + c)) / 4096 = -1 := by
    have q := (e3g (x := x) (y := y) (w := 1) (h := 4096) (by decide) (.inl rfl) hc0 hc1).1 rfl
    rcases q with q | q
    · exact .inl q
    · exact .inr (.inl q)
  rw [e1, hfin (m2 _) (m2 _) e3, decide_eq_decide.mpr (e2g (by decide))]
theorem sub16_h : ((bt 12 x != bt 12 y) != bt 12 (aR 65536 (-1) x y c)) = aH 4096 (-1) x y c := by
  rw [bt12, bt12, bt12]
  unfold aH aC aR
  have e1 : (x + -1 * (y + c)) % 65536 / 4096 % 2 = (x / 4096 % 2 + y / 4096 % 2 + (x % 4096 + -1 * (y % 4096 + c)) / 4096) % 2 := e1g x y c (-1) 8 (h := 4096) (by decide) (.inr rfl)
  have e3 : (x % 4096 + -1 * (y % 4096 + c)) / 4096 = 0 ∨ (x % 4096 + -1 * (y % 4096 + c)) / 4096 = 1 ∨ (x % 4096 + -1 * (y % 4096 + c)) / 4096 = -1 := by
    have q := (e3g (x := x) (y := y) (w := -1) (h := 4096) (by decide) (.inr rfl) hc0 hc1).2 rfl
    rcases q with q | q
    · exact .inl q
    · exact .inr (.inr q)
  rw [e1, hfin (m2 _) (m2 _) e3, decide_eq_decide.mpr (e2g (by decide))]
theorem add16_v : bt 15 (bitAnd (bitXor x (aR 65536 1 x y c)) (bitXor y (aR 65536 1 x y c))) = aV 65536 1 x y c := by
  rw [and_bit, xor_bit, xor_bit, bt15, bt15, bt15]
  unfold aV aR
  rw [sgn65536_eq hx0 hx1, sgn65536_eq hy0 hy1]
  have e1 : (x + 1 * (y + c)) % 65536 / 32768 % 2 = (x / 32768 % 2 + y / 32768 % 2 + (x % 32768 + 1 * (y % 32768 + c)) / 32768) % 2 := e1g x y c (1) 1 (h := 32768) (by decide) (.inl rfl)
  have e0 : (x % 32768 - 32768 * (x / 32768 % 2) + 1 * (y % 32768 - 32768 * (y / 32768 % 2) + c)) / 32768 = (x % 32768 + 1 * (y % 32768 + c)) / 32768 - (x / 32768 % 2 + y / 32768 % 2) := by
    have z : x % 32768 - 32768 * (x / 32768 % 2) + 1 * (y % 32768 - 32768 * (y / 32768 % 2) + c) = (x % 32768 + 1 * (y % 32768 + c)) + 32768 * (-(x / 32768 % 2 + y / 32768 % 2)) := by omega
    rw [z, Int.add_mul_ediv_left _ _ (by decide)]
    omega
  have e3 := (e3g (x := x) (y := y) (w := 1) (h := 32768) (by decide) (.inl rfl) hc0 hc1).1 rfl
  rw [e1, vfin_add (m2 _) (m2 _) e3]
  exact congrArg (! ·) (decide_eq_decide.mpr (e4g (by decide) e0)).symm
theorem sub16_v : bt 15 (bitAnd (bitXor x y) (bitXor x (aR 65536 (-1) x y c))) = aV 65536 (-1) x y c := by
  rw [and_bit, xor_bit, xor_bit, bt15, bt15, bt15]
  unfold aV aR
  rw [sgn65536_eq hx0 hx1, sgn65536_eq hy0 hy1]
  have e1 : (x + -1 * (y + c)) % 65536 / 32768 % 2 = (x / 32768 % 2 + y / 32768 % 2 + (x % 32768 + -1 * (y % 32768 + c)) / 32768) % 2 := e1g x y c (-1) 1 (h := 32768) (by decide) (.inr rfl)
  have e0 : (x % 32768 - 32768 * (x / 32768 % 2) + -1 * (y % 32768 - 32768 * (y / 32768 % 2) + c)) / 32768 = (x % 32768 + -1 * (y % 32768 + c)) / 32768 - (x / 32768 % 2 - y / 32768 % 2) := by
    have z : x % 32768 - 32768 * (x / 32768 % 2) + -1 * (y % 32768 - 32768 * (y / 32768 % 2) + c) = (x % 32768 + -1 * (y % 32768 + c)) + 32768 * (-(x / 32768 % 2 - y / 32768 % 2)) := by omega
    rw [z, Int.add_mul_ediv_left _ _ (by decide)]
    omega
  have e3 := (e3g (x := x) (y := y) (w := -1) (h := 32768) (by decide) (.inr rfl) hc0 hc1).2 rfl
  rw [e1, vfin_sub (m2 _) (m2 _) e3]
  exact congrArg (! ·) (decide_eq_decide.mpr (e4g (by decide) e0)).symm
theorem adc16_r : bitAnd (x + y + c) 65535 = aR 65536 1 x y c := by
  rw [and65535]; unfold aR; congr 1; omega
theorem sbc16_r : bitAnd (x - y - c) 65535 = aR 65536 (-1) x y c := by
  rw [and65535]; unfold aR; congr 1; omega
theorem adc16_c : (x + y + c).fdiv (2 ^ Int.toNat 16) = if aC 65536 1 x y c then 1 else 0 := by
  rw [fdiv16]
  unfold aC
  by_cases h : 0 ≤ x + 1 * (y + c) ∧ x + 1 * (y + c) < 65536
  · rw [decide_eq_true h]; simp; omega
  · rw [decide_eq_false h]; simp; omega
theorem sbc16_c : aC 65536 (-1) x y c = decide (x - y - c < 0) := by
  unfold aC
  by_cases h : x - y - c < 0
  · rw [decide_eq_true h, decide_eq_false (by omega)]; rfl
  · rw [decide_eq_false h, decide_eq_true (by omega)]; rfl
theorem adc16_f (v : Bool) (hv : decide (bitAnd (bitAnd (bitXor x (bitAnd (x + y + c) 65535)) (bitXor y (bitAnd (x + y + c) 65535))) 32768 ≠ 0) = v) :
    bitOr (bitOr (bitOr (wzF (bitAnd (x + y + c) 65535)) (hiF x y (bitAnd (x + y + c) 65535))) (if v then 4 else 0)) ((x + y + c).fdiv (2 ^ Int.toNat 16)) = wdF 1 x y c := by
  rw [adc16_r hx0 hx1 hy0 hy1 hc0 hc1] at hv ⊢
  have hv' : aV 65536 1 x y c = v := by
    rw [← add16_v hx0 hx1 hy0 hy1 hc0 hc1, ← hv]
    cases hq : bt 15 _ with
    | false => exact (decide_eq_false fun hn => by rw [(and32768_ne _).mp hn] at hq; cases hq).symm
    | true => exact (decide_eq_true ((and32768_ne _).mpr hq)).symm
  rw [adc16_c hx0 hx1 hy0 hy1 hc0 hc1, ← hv']
  unfold wzF hiF wdF
  rw [add16_h hx0 hx1 hy0 hy1 hc0 hc1]
  exact fl_adc _ _ _ _ _ _ _
theorem sbc16_f (v cc : Bool) (hv : decide (bitAnd (bitAnd (bitXor x y) (bitXor x (bitAnd (x - y - c) 65535))) 32768 ≠ 0) = v) (hc : decide (x - y - c < 0) = cc) :
    bitOr (bitOr (bitOr (bitOr (wzF (bitAnd (x - y - c) 65535)) (hiF x y (bitAnd (x - y - c) 65535))) (if v then 4 else 0)) 2) (if cc then 1 else 0) = wdF (-1) x y c := by
  rw [sbc16_r hx0 hx1 hy0 hy1 hc0 hc1] at hv ⊢
  have hv' : aV 65536 (-1) x y c = v := by
    rw [← sub16_v hx0 hx1 hy0 hy1 hc0 hc1, ← hv]
    cases hq : bt 15 _ with
    | false => exact (decide_eq_false fun hn => by rw [(and32768_ne _).mp hn] at hq; cases hq).symm
    | true => exact (decide_eq_true ((and32768_ne _).mpr hq)).symm
  rw [← hc, ← sbc16_c hx0 hx1 hy0 hy1 hc0 hc1, ← hv']
  unfold wzF hiF wdF
  rw [sub16_h hx0 hx1 hy0 hy1 hc0 hc1]
  exact fl_sbc _ _ _ _ _ _ _
end
theorem add16_r {x y : Int} : bitAnd (x + y) 65535 = aR 65536 1 x y 0 := by
  rw [and65535]; unfold aR; congr 1; omega
theorem add16_f {x y f : Int} (hx0 : 0 ≤ x) (hx1 : x < 65536) (hy0 : 0 ≤ y) (hy1 : y < 65536) :
    bitOr (bitOr (bitAnd f 196) (hiF x y (bitAnd (x + y) 65535))) ((x + y).fdiv (2 ^ Int.toNat 16)) = a16F x y f := by
  have hC := adc16_c hx0 hx1 hy0 hy1 (c := 0) (by decide) (by decide)
  rw [Int.add_zero] at hC
  rw [hC, add16_r, and196]
  unfold hiF a16F
  rw [add16_h hx0 hx1 hy0 hy1 (by decide) (by decide)]
  exact fl_a16 _ _ _ _ _ _ _
theorem adc16w_t {x y c : Int} (hx0 : 0 ≤ x) (hx1 : x < 65536) (hy0 : 0 ≤ y) (hy1 : y < 65536) (hc0 : 0 ≤ c) (hc1 : c ≤ 1) (h : bitAnd (bitAnd (bitXor x (bitAnd (x + y + c) 65535)) (bitXor y (bitAnd (x + y + c) 65535))) 32768 ≠ 0) : bitOr (bitOr (bitOr (wzF (bitAnd (x + y + c) 65535)) (hiF x y (bitAnd (x + y + c) 65535))) 4) ((x + y + c).fdiv (2 ^ Int.toNat 16)) = wdF 1 x y c := by
  have q := adc16_f hx0 hx1 hy0 hy1 hc0 hc1 true (decide_eq_true h)
  simp only [if_true, Bool.false_eq_true, if_false] at q
  exact q
theorem sbc16_tt {x y c : Int} (hx0 : 0 ≤ x) (hx1 : x < 65536) (hy0 : 0 ≤ y) (hy1 : y < 65536) (hc0 : 0 ≤ c) (hc1 : c ≤ 1) (h : bitAnd (bitAnd (bitXor x y) (bitXor x (bitAnd (x - y - c) 65535))) 32768 ≠ 0) (k : x - y - c < 0) : bitOr (bitOr (bitOr (bitOr (wzF (bitAnd (x - y - c) 65535)) (hiF x y (bitAnd (x - y - c) 65535))) 4) 2) 1 = wdF (-1) x y c := by
  have q := sbc16_f hx0 hx1 hy0 hy1 hc0 hc1 true true (decide_eq_true h) (decide_eq_true k)
  simp only [if_true, Bool.false_eq_true, if_false] at q
  exact q
theorem sbc16_tf {x y c : Int} (hx0 : 0 ≤ x) (hx1 : x < 65536) (hy0 : 0 ≤ y) (hy1 : y < 65536) (hc0 : 0 ≤ c) (hc1 : c ≤ 1) (h : bitAnd (bitAnd (bitXor x y) (bitXor x (bitAnd (x - y - c) 65535))) 32768 ≠ 0) (k : ¬x - y - c < 0) : bitOr (bitOr (bitOr (bitOr (wzF (bitAnd (x - y - c) 65535)) (hiF x y (bitAnd (x - y - c) 65535))) 4) 2) 0 = wdF (-1) x y c := by
  have q := sbc16_f hx0 hx1 hy0 hy1 hc0 hc1 true false (decide_eq_true h) (decide_eq_false k)
  simp only [if_true, Bool.false_eq_true, if_false] at q
  exact q
theorem adc16w_f {x y c : Int} (hx0 : 0 ≤ x) (hx1 : x < 65536) (hy0 : 0 ≤ y) (hy1 : y < 65536) (hc0 : 0 ≤ c) (hc1 : c ≤ 1) (h : bitAnd (bitAnd (bitXor x (bitAnd (x + y + c) 65535)) (bitXor y (bitAnd (x + y + c) 65535))) 32768 = 0) : bitOr (bitOr (bitOr (wzF (bitAnd (x + y + c) 65535)) (hiF x y (bitAnd (x + y + c) 65535))) 0) ((x + y + c).fdiv (2 ^ Int.toNat 16)) = wdF 1 x y c := by
  have q := adc16_f hx0 hx1 hy0 hy1 hc0 hc1 false (decide_eq_false (fun hn => hn h))
  simp only [if_true, Bool.false_eq_true, if_false] at q
  exact q
theorem sbc16_ft {x y c : Int} (hx0 : 0 ≤ x) (hx1 : x < 65536) (hy0 : 0 ≤ y) (hy1 : y < 65536) (hc0 : 0 ≤ c) (hc1 : c ≤ 1) (h : bitAnd (bitAnd (bitXor x y) (bitXor x (bitAnd (x - y - c) 65535))) 32768 = 0) (k : x - y - c < 0) : bitOr (bitOr (bitOr (bitOr (wzF (bitAnd (x - y - c) 65535)) (hiF x y (bitAnd (x - y - c) 65535))) 0) 2) 1 = wdF (-1) x y c := by
  have q := sbc16_f hx0 hx1 hy0 hy1 hc0 hc1 false true (decide_eq_false (fun hn => hn h)) (decide_eq_true k)
  simp only [if_true, Bool.false_eq_true, if_false] at q
  exact q
theorem sbc16_ff {x y c : Int} (hx0 : 0 ≤ x) (hx1 : x < 65536) (hy0 : 0 ≤ y) (hy1 : y < 65536) (hc0 : 0 ≤ c) (hc1 : c ≤ 1) (h : bitAnd (bitAnd (bitXor x y) (bitXor x (bitAnd (x - y - c) 65535))) 32768 = 0) (k : ¬x - y - c < 0) : bitOr (bitOr (bitOr (bitOr (wzF (bitAnd (x - y - c) 65535)) (hiF x y (bitAnd (x - y - c) 65535))) 0) 2) 0 = wdF (-1) x y c := by
  have q := sbc16_f hx0 hx1 hy0 hy1 hc0 hc1 false false (decide_eq_false (fun hn => hn h)) (decide_eq_false k)
  simp only [if_true, Bool.false_eq_true, if_false] at q
  exact q
end Mine
end
section
open PySem PySem.W PySem.Spec PySem.Calls PyProof.Rows PyProof.Rows.LCg PyProof.Rows.LCt
set_option maxHeartbeats 2000000
namespace Mine
section
variable {prog : Program} {w : World} {A : Around} {E : Value → Shared → Prop} {s : Shared} {h₀ : Heap} {L : Addr} {m : Str → Option Value} {env : Env}
def SrcDT (prog : Program) (w : World) (A : Around) (h₀ : Heap) (L : Addr) (m : Str → Option Value) (env : Env) (ct elt : Expr) (x : Str) (scope : Scope) (cl : List (Str × Addr)) (Fin : Shared → List Value → List (Addr × Obj) → Prop) (xv : Value) (s₁ : Shared) : Prop :=
  ∃ d o kvs news, xv = .ref d ∧ A.handled = none ∧ Fr h₀ L s₁.heap m ∧ News h₀ L s₁.heap news ∧ (d, o) ∈ news ∧ (d == sysModules) = false ∧ o.IsDictOf (PySem.strKind prog w) kvs ∧ kvs.length ≤ sizeLine ∧
    ∀ s₂ : Shared, (∃ h, s₂ = { s₁ with heap := h }) → CompRestT prog w A h₀ L m env ct elt x scope cl s₂ (fun nw => (d, o) ∈ nw) (fun i v => ∃ k y t, kvs[i]? = some (k, y) ∧ v = .str k t) (Fin s₂) kvs.length 0 [] news

theorem SrcDT.mk {ct elt : Expr} {x : Str} {scope : Scope} {cl : List (Str × Addr)} {Fin : Shared → List Value → List (Addr × Obj) → Prop} {d : Addr} {o : Obj} {kvs : List (Str × Value)} {news : List (Addr × Obj)} {s₁ : Shared}
    (hh : A.handled = none) (F : Fr h₀ L s₁.heap m) (N : News h₀ L s₁.heap news) (hm : (d, o) ∈ news) (lo : (d == sysModules) = false) (hd : o.IsDictOf (PySem.strKind prog w) kvs) (hsz : kvs.length ≤ sizeLine)
    (h : ∀ g, CompRestT prog w A h₀ L m env ct elt x scope cl { s₁ with heap := g } (fun nw => (d, o) ∈ nw) (fun i v => ∃ k y t, kvs[i]? = some (k, y) ∧ v = .str k t) (Fin { s₁ with heap := g }) kvs.length 0 [] news) :
    SrcDT prog w A h₀ L m env ct elt x scope cl Fin (.ref d) s₁ := ⟨d, o, kvs, news, rfl, hh, F, N, hm, lo, hd, hsz, fun _ ⟨g, e⟩ => e ▸ h g⟩

theorem ListComp_TD {ct elt iter : Expr} {x : Str} {px : Pos} {scope : Scope} {cl : List (Str × Addr)} {pos : Pos} {Q : Value → Shared → Prop} (F₀ : Fr h₀ L s.heap m)
    (hclos : closureFor scope env = pure cl) (hcell : ∀ y ∈ scope.names, y.2 ≠ .cell) (hkind : scope.kind = .function)
    (hnames : ∀ y ∈ scope.names, y.2 = .local → scope.names.lookup y.1 = some .local) (hx : scope.names.lookup x = some .local)
    (h : wpAny (model prog w) A (eval iter env) (SrcDT prog w A h₀ L m env ct elt x scope cl (fun s₂ => FinE h₀ L m s₂ Q)) E s)
    (hs : ∀ x, foldedSetIterable iter env x = pure x := by intro _; rfl) :
    wpAny (model prog w) A (eval (.ListComp elt [⟨.Name x px, iter, [ct], 0⟩] scope pos) env) Q E s := by
  rw [eval_ListComp]
  refine wpAny_comprehension_free (use := none) rfl hs hclos hkind hnames (wpAny_mono h (fun xv s₁ h₁ => ?_) fun _ _ e => e)
  obtain ⟨d, o, kvs, news, rfl, hh, F, N, hm, lo, hd, hsz, R⟩ := h₁
  have hD : s₁.heap.DictOf (PySem.strKind prog w) d kvs := Heap.dictOf_iff.mpr ⟨o, (N _ hm).1, hd⟩
  obtain ⟨ep, hat⟩ := hD.dictAt
  have hlt : d < s₁.heap.objs.size := hat.lt_size
  refine wpAny_pyIter_dict lo hat ?_
  have W := (Walks.dictKeys (prog := prog) (w := w) (knd := PySem.strKind prog w) hh s₁.heap.objs.size d (Nat.ne_of_lt hlt) kvs ep).weaken (P' := fun i v => ∃ k y t, kvs[i]? = some (k, y) ∧ v = .str k t) (by
    rintro i v ⟨k, xv, hx, hkey⟩
    obtain ⟨t, rfl⟩ := Value.isStrOf_shape hkey
    exact ⟨k, xv, t, hx, rfl⟩)
  refine block_T W hsz (fun i h st => by obtain ⟨o, e, _⟩ := st.1; exact ⟨o, e⟩) (S := fun nw => (d, o) ∈ nw)
    (fun i h h' oI nw st e e' k N' S' => ⟨by obtain ⟨o', q, r⟩ := st.1; rw [e] at q; cases q; exact ⟨oI, e', r⟩, ?_⟩) hcell hkind hx ⟨⟨_, Heap.get?_push_size _ rfl, rfl, rfl⟩, hat.push _⟩ (fun b hb => ?_)
      (F.keeps fun _ _ e => Heap.get?_push_of_some _ e) (N.grown fun _ _ e => Heap.get?_push_of_some _ e) (Nat.ne_of_lt F.ns.lt) (next_is_new F) (fun p hp => Nat.ne_of_lt (Heap.lt_size (N p hp).1)) hm (R _ ⟨_, rfl⟩) ?_
  · obtain ⟨o', es, ho', r⟩ := st.2
    obtain ⟨o'', es'', ho'', r''⟩ := hat
    have q1 := (N _ hm).1
    rw [q1] at ho''
    cases ho''
    exact ⟨o, es'', (N' _ S').1, r''⟩
  · show b < (s₁.heap.push _).objs.size
    rw [Heap.size_push]
    rcases List.mem_cons.mp hb with rfl | hb
    · exact Nat.lt_succ_self _
    · rw [List.mem_singleton.mp hb]; exact Nat.lt_succ_of_lt hlt
  · intro D C h tk m' ys news' F' N' o1 hn hC₀ hD₀ hCL hDL hCD offC fin
    refine ⟨m', hn, fun h'' hs'' => fin D h'' tk (F'.change hs'' hCL hC₀) (fun p hp => ?_) o1⟩
    refine ⟨hs''.extBut _ _ ?_ (N' p hp).1, (N' p hp).2⟩
    rcases List.mem_cons.mp hp with rfl | hp
    · exact Ne.symm hCD
    · exact offC p hp

/-- the values that a filter keeps -/
def kept (vals : List (Int × Bool)) : List Int := vals.filterMap fun q => if q.2 then some q.1 else none

theorem kcd_rest {ct elt : Expr} {x : Str} {scope : Scope} {cl : List (Str × Addr)} {S : List (Addr × Obj) → Prop} {Fin : List Value → List (Addr × Obj) → Prop} {kvs : List (Str × Value)} {news : List (Addr × Obj)} (vals : List (Int × Bool)) (hlen : vals.length = kvs.length)
    (turn : ∀ q ∈ kvs.zip vals, ∀ t I oI C oC D m₂ ys h tk (E' : Value → Shared → Prop), NsObj oC m₂ → m₂ x = some (.str q.1.1 t) → Fr h₀ L h m → News h₀ L h ((I, oI) :: (C, oC) :: (D, lst ys) :: news) → Off3 I C D news → ((@Ne Nat I C) ∧ (@Ne Nat I D) ∧ (@Ne Nat C D)) →
      wpAny (model prog w) A (isTrue ct (compEnvC scope cl C env) (eval ct (compEnvC scope cl C env))) (fun b s' => if b = true then wpAny (model prog w) A (eval elt (compEnvC scope cl C env)) (CompEnd h₀ L m { s with heap := h, toks := tk } I oI C oC D (lst ys) S (fun y news' => (q.2.2 = true ∧ ∃ t, y = .int q.2.1 t) ∧ news' = news)) E' s'
        else CompEnd h₀ L m { s with heap := h, toks := tk } I oI C oC D (lst ys) S (fun _ news' => q.2.2 = false ∧ news' = news) Value.none s') E' { s with heap := h, toks := tk })
    (fin : ∀ ys, IntsAre ys (kept vals) → ys.length ≤ kvs.length → Fin ys news) : CompRestT prog w A h₀ L m env ct elt x scope cl s S (fun i v => ∃ k y t, kvs[i]? = some (k, y) ∧ v = .str k t) Fin kvs.length 0 [] news := by
  have key : ∀ (j i : Nat) (ys : List Value), i + j = kvs.length → IntsAre ys (kept (vals.take i)) → CompRestT prog w A h₀ L m env ct elt x scope cl s S (fun i v => ∃ k y t, kvs[i]? = some (k, y) ∧ v = .str k t) Fin j i ys news := by
    intro j
    induction j with
    | zero =>
      intro i ys hi hy
      have e : i = vals.length := by omega
      subst e
      rw [List.take_length] at hy
      refine CompRestT.zero (fin ys hy ?_)
      rw [hy.length, ← hlen]
      unfold kept
      exact List.length_filterMap_le ..
    | succ j ih =>
      intro i ys hi hy
      refine CompRestT.succ ?_
      intro v I oI C oC D m₂ h tk E' hv hC hx F N off ne
      obtain ⟨k, y, t, hk, hv'⟩ := hv
      rw [hv'] at hx
      have hi' : i < vals.length := by omega
      obtain ⟨⟨a, b⟩, hab⟩ : ∃ p, vals[i]? = some p := ⟨vals[i], by simp [hi']⟩
      have hz : (kvs.zip vals)[i]? = some ((k, y), (a, b)) := by rw [List.getElem?_zip_eq_some]; exact ⟨hk, hab⟩
      have hs : kept (vals.take (i + 1)) = kept (vals.take i) ++ (if b then [a] else []) := by
        unfold kept
        rw [List.take_add_one, hab, List.filterMap_append]
        cases b <;> rfl
      refine wpAny_mono (turn _ (List.mem_of_getElem? hz) t I oI C oC D m₂ ys h tk E' hC hx F N off ne) (fun ok s₂ hq => ?_) fun _ _ e => e
      dsimp only at hq
      cases ok with
      | true =>
        simp only [if_true] at hq ⊢
        refine wpAny_mono hq (fun y' s₃ hr => ?_) fun _ _ e => e
        obtain ⟨h', tk', nw, e, F', N', off', hS, ⟨hb, t', hy'⟩, hn⟩ := hr
        rw [hn] at N' off' hS
        refine ⟨h', tk', news, e, F', N', off', hS, ?_⟩
        rw [hy']
        refine ih (i + 1) _ (by omega) ?_
        rw [hs, hb]
        exact IntsAre.append hy (.cons a t' .nil)
      | false =>
        simp only [Bool.false_eq_true, if_false] at hq ⊢
        obtain ⟨h', tk', nw, e, F', N', off', hS, hb, hn⟩ := hq
        rw [hn] at N' off' hS
        refine ⟨h', tk', news, e, F', N', off', hS, ih (i + 1) _ (by omega) ?_⟩
        rw [hs, hb]
        simpa using hy
  exact key kvs.length 0 [] (by omega) (by simp only [List.take_zero, kept, List.filterMap_nil]; exact .nil)
end
end Mine
end
section
open PySem PySem.W PySem.Spec PySem.Calls PyProof.Rows
namespace Mine
/-- the contract of one call: from any frame, with the ledger news, it hands back r and leaves the ledger news', as post says -/
def Does (prog : Program) (w : World) (K : Frag) (p : Program) (loose : List Str) (mean : ExcName → Option Value) (mg mb : Str → Option Value) (f : Addr) (D U : Nat) (news : List (Addr × Obj)) (vs : List Value) (post : Value → List (Addr × Obj) → Prop) : Prop :=
  ∀ (dp un : Nat) (gd : Option (List Code)) (cn : Str) (cs : Scope) (a : Addr) (ccd : Value) (cl : List (Str × Addr)) (outer : List Env) (A₀ : Around) (base h₀ : Heap) (L : Addr) (m : Str → Option Value) (s : Shared) (Q E : Value → Shared → Prop),
    Below A₀ base outer h₀ → Fr h₀ L s.heap m → K.In h₀ → News h₀ L s.heap news → Top p loose mean mg mb h₀ → cs.kind = .function →
    dp + D < recursionLimit → un + U < cLine →
    (∀ r news' h' tk', Fr h₀ L h' m → News h₀ L h' news' → post r news' → Q r { s with heap := h', toks := tk' }) →
    wpAny (model prog w) (ktrTop dp un gd cn cs L a ccd cl outer) (call (.ref f) vs) Q E s

abbrev tupObj (vs : List Value) (c : Nat) : Obj := { cls := .type "tuple", data := .seq vs.toArray c }
/-- a fresh tuple of two ints above the old ledger -/
def Tup2 (news : List (Addr × Obj)) (x y : Int) (r : Value) (news' : List (Addr × Obj)) : Prop :=
  ∃ (D : Addr) (t1 t2 : Tok) (c : Nat), r = .ref D ∧ news' = (D, ({ cls := .type "tuple", data := .seq #[.int x t1, .int y t2] c } : Obj)) :: news ∧ AllLt D news
def RetI (news : List (Addr × Obj)) (x : Int) (r : Value) (news' : List (Addr × Obj)) : Prop := (∃ t, r = .int x t) ∧ news' = news
def RetB (news : List (Addr × Obj)) (x : Bool) (r : Value) (news' : List (Addr × Obj)) : Prop := r = .bool x ∧ news' = news
theorem does_use {prog : Program} {w : World} {K : Frag} {p : Program} {loose : List Str} {mean : ExcName → Option Value} {mg mb : Str → Option Value} {f : Addr} {D U : Nat} {news : List (Addr × Obj)} {vs : List Value} {post : Value → List (Addr × Obj) → Prop}
    (C : Does prog w K p loose mean mg mb f D U news vs post) {dp un : Nat} {gd : Option (List Code)} {cn : Str} {cs : Scope} {a : Addr} {ccd : Value} {cl : List (Str × Addr)} {outer : List Env} {A₀ : Around} {base h₀ : Heap} {L : Addr} {m : Str → Option Value} {s : Shared} {Q E : Value → Shared → Prop}
    (B : Below A₀ base outer h₀) (F : Fr h₀ L s.heap m) (X : K.In h₀) (N : News h₀ L s.heap news) (T : Top p loose mean mg mb h₀) (hk : cs.kind = .function) (hd : dp + D < recursionLimit) (hu : un + U < cLine)
    (ret : ∀ r news' h' tk', Fr h₀ L h' m → News h₀ L h' news' → post r news' → Q r { s with heap := h', toks := tk' }) :
    wpAny (model prog w) (ktrTop dp un gd cn cs L a ccd cl outer) (call (.ref f) vs) Q E s := C _ _ _ _ _ _ _ _ _ _ _ _ _ _ _ _ _ B F X N T hk hd hu ret
theorem retI_use {prog : Program} {w : World} {K : Frag} {p : Program} {loose : List Str} {mean : ExcName → Option Value} {mg mb : Str → Option Value} {f : Addr} {D U : Nat} {news : List (Addr × Obj)} {vs : List Value} {x : Int}
    (C : Does prog w K p loose mean mg mb f D U news vs (RetI news x)) {dp un : Nat} {gd : Option (List Code)} {cn : Str} {cs : Scope} {a : Addr} {ccd : Value} {cl : List (Str × Addr)} {outer : List Env} {A₀ : Around} {base h₀ : Heap} {L : Addr} {m : Str → Option Value} {s : Shared} {Q E : Value → Shared → Prop}
    (B : Below A₀ base outer h₀) (F : Fr h₀ L s.heap m) (X : K.In h₀) (N : News h₀ L s.heap news) (T : Top p loose mean mg mb h₀) (hk : cs.kind = .function) (hd : dp + D < recursionLimit) (hu : un + U < cLine)
    (ret : ∀ t h' tk', Fr h₀ L h' m → News h₀ L h' news → Q (.int x t) { s with heap := h', toks := tk' }) :
    wpAny (model prog w) (ktrTop dp un gd cn cs L a ccd cl outer) (call (.ref f) vs) Q E s := does_use C B F X N T hk hd hu fun r n' h' tk' F' N' P => by
  obtain ⟨⟨t, rfl⟩, rfl⟩ := P
  exact ret t h' tk' F' N'
theorem retB_use {prog : Program} {w : World} {K : Frag} {p : Program} {loose : List Str} {mean : ExcName → Option Value} {mg mb : Str → Option Value} {f : Addr} {D U : Nat} {news : List (Addr × Obj)} {vs : List Value} {x : Bool}
    (C : Does prog w K p loose mean mg mb f D U news vs (RetB news x)) {dp un : Nat} {gd : Option (List Code)} {cn : Str} {cs : Scope} {a : Addr} {ccd : Value} {cl : List (Str × Addr)} {outer : List Env} {A₀ : Around} {base h₀ : Heap} {L : Addr} {m : Str → Option Value} {s : Shared} {Q E : Value → Shared → Prop}
    (B : Below A₀ base outer h₀) (F : Fr h₀ L s.heap m) (X : K.In h₀) (N : News h₀ L s.heap news) (T : Top p loose mean mg mb h₀) (hk : cs.kind = .function) (hd : dp + D < recursionLimit) (hu : un + U < cLine)
    (ret : ∀ h' tk', Fr h₀ L h' m → News h₀ L h' news → Q (.bool x) { s with heap := h', toks := tk' }) :
    wpAny (model prog w) (ktrTop dp un gd cn cs L a ccd cl outer) (call (.ref f) vs) Q E s := does_use C B F X N T hk hd hu fun r n' h' tk' F' N' P => by
  obtain ⟨rfl, rfl⟩ := P
  exact ret h' tk' F' N'
theorem tup2_use {prog : Program} {w : World} {K : Frag} {p : Program} {loose : List Str} {mean : ExcName → Option Value} {mg mb : Str → Option Value} {f : Addr} {D U : Nat} {news : List (Addr × Obj)} {vs : List Value} {x y : Int}
    (C : Does prog w K p loose mean mg mb f D U news vs (Tup2 news x y)) {dp un : Nat} {gd : Option (List Code)} {cn : Str} {cs : Scope} {a : Addr} {ccd : Value} {cl : List (Str × Addr)} {outer : List Env} {A₀ : Around} {base h₀ : Heap} {L : Addr} {m : Str → Option Value} {s : Shared} {Q E : Value → Shared → Prop}
    (B : Below A₀ base outer h₀) (F : Fr h₀ L s.heap m) (X : K.In h₀) (N : News h₀ L s.heap news) (T : Top p loose mean mg mb h₀) (hk : cs.kind = .function) (hd : dp + D < recursionLimit) (hu : un + U < cLine)
    (ret : ∀ (D : Addr) (t1 t2 : Tok) (c : Nat) h' tk', Fr h₀ L h' m → News h₀ L h' ((D, ({ cls := .type "tuple", data := .seq #[.int x t1, .int y t2] c } : Obj)) :: news) → AllLt D news → Q (.ref D) { s with heap := h', toks := tk' }) :
    wpAny (model prog w) (ktrTop dp un gd cn cs L a ccd cl outer) (call (.ref f) vs) Q E s := does_use C B F X N T hk hd hu fun r n' h' tk' F' N' P => by
  obtain ⟨D, t1, t2, c, rfl, rfl, hlt⟩ := P
  exact ret D t1 t2 c h' tk' F' N' hlt
theorem tup2_of {news : List (Addr × Obj)} {x x' y y' : Int} {D : Addr} {t1 t2 : Tok} {c : Nat} (hl : AllLt D news) (hx : x = x') (hy : y = y') : Tup2 news x' y' (.ref D) ((D, ({ cls := .type "tuple", data := .seq #[.int x t1, .int y t2] c } : Obj)) :: news) := by
  subst hx hy
  exact ⟨D, t1, t2, c, rfl, rfl, hl⟩
theorem news_tail {h₀ h : Heap} {L : Addr} {q : Addr × Obj} {news : List (Addr × Obj)} (N : News h₀ L h (q :: news)) : News h₀ L h news := fun p hp => N p (.tail _ hp)
theorem news_drop1 {h₀ h : Heap} {L : Addr} {p q : Addr × Obj} {news : List (Addr × Obj)} (N : News h₀ L h (p :: q :: news)) : News h₀ L h (p :: news) := fun r hr => N r (by
  rcases List.mem_cons.mp hr with rfl | hr
  · exact .head _
  · exact .tail _ (.tail _ hr))
/-- an update of one entry, wherever it stands -/
theorem does_upd {prog : Program} {w : World} {K : Frag} {p : Program} {loose : List Str} {mean : ExcName → Option Value} {mg mb : Str → Option Value} {f : Addr} {D U : Nat} {vs : List Value} {d : Addr} {o : Obj} {P : Value → Obj → Prop} {news : List (Addr × Obj)} {g : Obj → List (Addr × Obj)} {H : List (Addr × Obj) → Prop}
    (C : ∀ rest, (∀ p ∈ rest, p.1 ≠ d) → H rest → Does prog w K p loose mean mg mb f D U ((d, o) :: rest) vs (fun r n' => ∃ o', P r o' ∧ n' = (d, o') :: rest))
    (Ud : UpdF d o news g) (hH : ∀ rest, (∀ p ∈ news, p.1 ≠ d → p ∈ rest) → H rest) : Does prog w K p loose mean mg mb f D U news vs (fun r n' => ∃ o', P r o' ∧ n' = g o') := by
  obtain ⟨pre, post, hn, hg, h1, h2⟩ := Ud.split
  subst hn
  intro dp un gd cn cs a ccd cl outer A₀ base h₀ L m s Q E B F X N T hk hd hu hret
  refine C (pre ++ post) (fun p hp => (List.mem_append.mp hp).elim (h1 p) (h2 p)) (hH _ fun p hp hne => ?_) _ _ _ _ _ _ _ _ _ _ _ _ _ _ _ _ _ B F X (fun p hp => N p ?_) T hk hd hu fun r n' h' tk' F' N' hP => ?_
  · rcases List.mem_append.mp hp with hp | hp
    · exact List.mem_append_left _ hp
    · rcases List.mem_cons.mp hp with rfl | hp
      · exact absurd rfl hne
      · exact List.mem_append_right _ hp
  · rcases List.mem_cons.mp hp with rfl | hp
    · exact List.mem_append_right _ (.head _)
    · rcases List.mem_append.mp hp with hp | hp
      · exact List.mem_append_left _ hp
      · exact List.mem_append_right _ (.tail _ hp)
  · obtain ⟨o', hP, rfl⟩ := hP
    refine hret r (g o') h' tk' F' (fun p hp => N' p ?_) ⟨o', hP, rfl⟩
    rw [hg] at hp
    rcases List.mem_append.mp hp with hp | hp
    · exact .tail _ (List.mem_append_left _ hp)
    · rcases List.mem_cons.mp hp with rfl | hp
      · exact .head _
      · exact .tail _ (List.mem_append_right _ hp)
theorem allLt_ne {x a : Nat} : ∀ {r : List (Addr × Obj)}, AllLt x r → @LE.le Nat _ x a → ∀ p ∈ r, p.1 ≠ a
  | [], _, _, _, hp => nomatch hp
  | q :: r, h, ha, p, hp => by
    rcases List.mem_cons.mp hp with rfl | hp
    · exact Nat.ne_of_lt (Nat.lt_of_lt_of_le h.1 ha)
    · exact allLt_ne h.2 ha p hp
end Mine
end
section
open PySem PySem.W PySem.Spec PySem.Calls PyProof.Rows PyProof.Rows.LCg PyProof.Rows.LCt
namespace Mine
theorem get_flag {prog : Program} {w : World} {A : Around} {E : Value → Shared → Prop} {s : Shared} {h₀ : Heap} {L d : Addr} {news : List (Addr × Obj)} {o : Obj} {kvs : List (Str × Value)} {k : Str} {tk : Tok} {b : Bool} {Q : Value → Shared → Prop} (N : News h₀ L s.heap news) (hp : (d, o) ∈ news) (hd : o.IsDictOf (PySem.strKind prog w) kvs) (lo : (d == sysModules) = false)
    (hv : (valueAt kvs k).getD (.bool false) = .bool b) (h : Q (.bool b) { s with toks := s.toks + 1 }) :
    wpAny (model prog w) A (call (.builtin "dict.get") [.ref d, .str k tk, .bool false]) Q E s :=
  kdg_get2 N hp hd lo (strKind_is _ _ _ _) _ rfl (by rw [hv]; exact h)
theorem kept_fl (s z y h x v n c : Bool) : (kept [(128, s), (64, z), (32, y), (16, h), (8, x), (4, v), (2, n), (1, c)]).sum = fl s z y h x v n c := by
  revert s z y h x v n c; decide +kernel
local macro_rules | `(tactic| k_mem) => `(tactic| assumption)
local macro_rules | `(tactic| k_all) => `(tactic| (refine' allLt_ne ?hA ?hB; (case hA => assumption); (case hB => omega)))
local macro_rules | `(tactic| walk_at "eval ListComp") => `(tactic| (k_here; k_dflt (refine ListComp_TD (F₀ := by k_asm) (by with_unfolding_all rfl) (by decide) (by rfl) (by decide) (by rfl) ?_)))
local macro_rules | `(tactic| walk_at "getMethod ref") => `(tactic| (k_here; (with_reducible show wpAny _ _ (getMethod (Value.ref _) (Str.ofString "get") _) _ _ _); k_dflt (refine kdg_method (knd := PySem.strKind _ _) (by k_asm) (by k_mem) (by k_asm) ?_)))
local macro_rules | `(tactic| walk_at "call builtin:dict.get") => `(tactic| (k_here; k_dflt (refine get_flag (by k_asm) (by k_mem) (by k_asm) (by k_asm) (by assumption) ?_)))
set_option maxRecDepth 100000 in
set_option maxHeartbeats 8000000 in
theorem c_flags (w : World) (p : Program) (loose : List Str) (mean : ExcName → Option Value) (mg mb : Str → Option Value) (news : List (Addr × Obj)) (d : Addr) (o : Obj) (kvs : List (Str × Value)) (hm : (d, o) ∈ news) (hlo : (d == sysModules) = false) (hdo : o.IsDictOf (PySem.strKind PySem.Challenge.rw_nz0560_01.row.prog w) kvs)
   (bS bZ bY bH bX bV bN bC : Bool)
   (hS : (valueAt kvs (Str.ofString "S")).getD (.bool false) = .bool bS)
   (hZ : (valueAt kvs (Str.ofString "Z")).getD (.bool false) = .bool bZ)
   (hY : (valueAt kvs (Str.ofString "Y")).getD (.bool false) = .bool bY)
   (hH : (valueAt kvs (Str.ofString "H")).getD (.bool false) = .bool bH)
   (hX : (valueAt kvs (Str.ofString "X")).getD (.bool false) = .bool bX)
   (hV : (valueAt kvs (Str.ofString "V")).getD (.bool false) = .bool bV)
   (hN : (valueAt kvs (Str.ofString "N")).getD (.bool false) = .bool bN)
   (hC : (valueAt kvs (Str.ofString "C")).getD (.bool false) = .bool bC) :
   Does PySem.Challenge.rw_nz0560_01.row.prog w (KF w.params) p loose mean mg mb 176 2 24 news [.ref d] (RetI news (fl bS bZ bY bH bX bV bN bC)) := by
  (have : PySem.Challenge.rw_nz0560_01 = PySem.Challenge.rw_nz0560_01 ∧ KF = KF := by (k_fill; exact ⟨rfl, rfl⟩)); clear this
  unfold Does
  intro dp un gd cn cs a ccd cl outer A₀ base h₀ L m s Q E B F X N T hk hd hu hret
  refine wpAny_call ?_
  k_dflt (refine' code_defC ?k1 ?k2 ?k3 ?k4 ?k5 ?kA ?kF ?kK ?k6 ?k7 ?k8 ?k9 ?kB ?kD ?_ ?c2 ?c3 ?c4; (case kA => exact rfl); (case kF => exact rfl); (case kK => assumption); (case k1 => k_asm); (case k2 => k_asm); (case k3 => k_asm); (case k4 => k_asm); (case k5 => k_asm); (case k6 => k_is); (case k7 => k_is); (case k8 => ktr_room); (case k9 => exact BindsTo.of_eq rfl); (case kB => exact rfl); (case kD => decide +kernel); (case c2 => exact rfl); (case c3 => exact rfl); (case c4 => exact rfl); k_whole; intro g' L' h' tk' cells' FG' F' N' Y' B' X' T' l1; (try k_lt l1); k_cells Y'; (try simp only [List.cons_append, List.nil_append] at N'); (try dsimp only); (try k_lift B'); (try k_fold))
  (try replace l1 := allLt_of l1)
  k_steps
  refine' SrcDT.mk ?a1 ?a2 ?a3 ?a4 ?a5 ?a6 ?a7 ?_
  case a1 => rfl
  case a2 => k_asm
  case a3 => k_asm
  case a4 => k_mem
  case a5 => k_asm
  case a6 => k_asm
  case a7 => exact Nat.le_trans (Nat.le_of_eq (by rfl : _ = 8)) (by rw [PySem.sizeLine_eq]; decide)
  intro g9
  refine kcd_rest [(128, bS), (64, bZ), (32, bY), (16, bH), (8, bX), (4, bV), (2, bN), (1, bC)] rfl ?_ ?_
  case _ =>
    repeat' (refine List.forall_mem_cons.mpr ⟨?_, ?_⟩)
    all_goals (first | exact List.forall_mem_nil _ | skip)
    all_goals (
      intro t I oI C oC D m₂ ys h tk E' hNs hm2 F9 N9 off ne
      dsimp only at hm2 ⊢
      k_steps)
    all_goals (first
      | exact CompEnd.intro (by k_asm) (by k_asm) _ (fun _ hp => hp) off (by k_mem) ⟨⟨by assumption, _, rfl⟩, rfl⟩
      | exact CompEnd.intro (by k_asm) (by k_asm) _ (fun _ hp => hp) off (by k_mem) ⟨by first | assumption | simp_all, rfl⟩)
  case _ =>
    intro ys hys hlen
    unfold FinE
    intro D h tk F9 N9 off
    k_steps
    all_goals (refine hret _ _ _ _ (by k_asm) (cb_drop (news := news) (by k_asm) (by kcj_all)) ⟨⟨_, by rw [kept_fl]⟩, rfl⟩)
end Mine
end
section
open PySem PySem.W PySem.Spec PySem.Calls PyProof.Rows
namespace Mine

abbrev dealO (n : Addr) (k sd : Int) (tk ts : Tok) (c : Nat) : Obj := { cls := .type "list", data := .seq #[.ref n, .int k tk, .int sd ts] c }
abbrev numO (vs : List Value) (c : Nat) : Obj := { cls := .type "list", data := .seq vs.toArray c }
/-- what a draw hands back, and how the deal stands behind it -/
def Drawn (n : Addr) (len : Nat) (many : Int) (r : Value) (o' : Obj) : Prop :=
  ∃ (x : Int) (t : Tok) (k sd : Int) (tk ts : Tok) (c : Nat), r = .int x t ∧ 0 ≤ x ∧ x < many ∧ o' = dealO n k sd tk ts c ∧ 0 ≤ k ∧ k ≤ (len : Int) ∧ 0 ≤ sd ∧ sd < 2147483647
theorem drawn {n : Addr} {len : Nat} {many x k sd : Int} {t tk ts : Tok} {c : Nat} (h0 : 0 < many) (hk0 : 0 ≤ k) (hk1 : k ≤ (len : Int)) (hs0 : 0 ≤ sd) (hs1 : sd < 2147483647) : Drawn n len many (.int (x.fmod many) t) (dealO n k sd tk ts c) :=
  ⟨_, _, _, _, _, _, _, rfl, Int.fmod_nonneg_of_pos _ h0, Int.fmod_lt_of_pos _ h0, rfl, hk0, hk1, hs0, hs1⟩
local macro_rules | `(tactic| is_list) => `(tactic| exact News.isList (by k_asm) (by k_mem))
local macro_rules | `(tactic| k_mem) => `(tactic| assumption)
local macro_rules | `(tactic| k_all) => `(tactic| assumption)
local macro_rules | `(tactic| k_all) => `(tactic| (refine' allLt_ne ?hA ?hB; (case hA => assumption); (case hB => omega)))
set_option maxRecDepth 100000 in
set_option maxHeartbeats 8000000 in
theorem c_take0 (w : World) (p : Program) (loose : List Str) (mean : ExcName → Option Value) (mg mb : Str → Option Value) (rest : List (Addr × Obj)) (d n : Addr) (k sd many : Int) (tk ts tm : Tok) (c cn : Nat) (vs : List Value) (ns : List Int) (hne : ∀ p ∈ rest, p.1 ≠ d) (hn : (n, numO vs cn) ∈ rest) (hi : IntsAre vs ns) (hk0 : 0 ≤ k) (hk1 : k ≤ (ns.length : Int)) (hl : ns.length ≤ 32) (hs0 : 0 ≤ sd) (hs1 : sd < 2147483647) (hm0 : 0 < many) (hm1 : many < 100000) :
   Does PySem.Challenge.rw_nz0560_01.row.prog w (KF w.params) p loose mean mg mb 145 1 8 ((d, dealO n k sd tk ts c) :: rest) [.ref d, .int many tm] (fun r n' => ∃ o', Drawn n ns.length many r o' ∧ n' = (d, o') :: rest) := by
  (have : PySem.Challenge.rw_nz0560_01 = PySem.Challenge.rw_nz0560_01 ∧ KF = KF := by (k_fill; exact ⟨rfl, rfl⟩)); clear this
  unfold Does
  intro dp un gd cn cs a ccd cl outer A₀ base h₀ L m s Q E B F X N T hk hd hu hret
  refine wpAny_call ?_
  k_dflt cell_enter
  k_steps
  all_goals (refine hret _ _ _ _ (by k_asm) (by k_asm) ⟨_, drawn hm0 ?_ ?_ ?_ ?_, rfl⟩)
  all_goals first
    | omega
    | exact Int.fmod_nonneg_of_pos _ (by decide)
    | exact Int.fmod_lt_of_pos _ (by decide)

theorem c_take (w : World) (p : Program) (loose : List Str) (mean : ExcName → Option Value) (mg mb : Str → Option Value) (news : List (Addr × Obj)) (g : Obj → List (Addr × Obj)) (d n : Addr) (k sd many : Int) (tk ts tm : Tok) (c cn : Nat) (vs : List Value) (ns : List Int) (U : UpdF d (dealO n k sd tk ts c) news g) (hn : (n, numO vs cn) ∈ news) (hnd : @Ne Nat n d) (hi : IntsAre vs ns) (hk0 : 0 ≤ k) (hk1 : k ≤ (ns.length : Int)) (hl : ns.length ≤ 32) (hs0 : 0 ≤ sd) (hs1 : sd < 2147483647) (hm0 : 0 < many) (hm1 : many < 100000) :
   Does PySem.Challenge.rw_nz0560_01.row.prog w (KF w.params) p loose mean mg mb 145 1 8 news [.ref d, .int many tm] (fun r n' => ∃ o', Drawn n ns.length many r o' ∧ n' = g o') :=
  does_upd (H := fun rest => (n, numO vs cn) ∈ rest) (fun rest h1 h2 => c_take0 w p loose mean mg mb rest d n k sd many tk ts tm c cn vs ns h1 h2 hi hk0 hk1 hl hs0 hs1 hm0 hm1) U (fun rest h => h _ hn hnd)
end Mine
end
section
open PySem PySem.W PySem.Spec PySem.Calls PyProof.Rows
namespace Mine

theorem getD_bnd {l : List Int} {b : Int} (h : ∀ y ∈ l, 0 ≤ y ∧ y < b) (hb : 0 < b) (i : Nat) : 0 ≤ l.getD i 0 ∧ l.getD i 0 < b := by
  rw [List.getD_eq_getElem?_getD]
  cases hq : l[i]? with
  | none => exact ⟨Int.le_refl _, hb⟩
  | some y => exact h y (List.mem_of_getElem? hq)

theorem take_use {w : World} {p : Program} {loose : List Str} {mean : ExcName → Option Value} {mg mb : Str → Option Value} {news : List (Addr × Obj)} {g : Obj → List (Addr × Obj)} {d n : Addr} {k sd many : Int} {tk ts tm : Tok} {c cn : Nat} {vs : List Value} {ns : List Int}
    {dp un : Nat} {gd : Option (List Code)} {cna : Str} {cs : Scope} {a : Addr} {ccd : Value} {cl : List (Str × Addr)} {outer : List Env} {A₀ : Around} {base h₀ : Heap} {L : Addr} {m : Str → Option Value} {s : Shared} {Q E : Value → Shared → Prop}
    (B : Below A₀ base outer h₀) (F : Fr h₀ L s.heap m) (X : (KF w.params).In h₀) (N : News h₀ L s.heap news) (T : Top p loose mean mg mb h₀) (hk : cs.kind = .function) (U : UpdF d (dealO n k sd tk ts c) news g) (hn : (n, numO vs cn) ∈ news) (hi : IntsAre vs ns) (hnd : @Ne Nat n d) (hk0 : 0 ≤ k) (hk1 : k ≤ (ns.length : Int)) (hl : ns.length ≤ 32) (hs0 : 0 ≤ sd) (hs1 : sd < 2147483647) (hm0 : 0 < many) (hm1 : many < 100000)
    (hd : dp + 1 < recursionLimit) (hu : un + 8 < cLine)
    (ret : ∀ (x : Int) (t : Tok) (k' sd' : Int) (tk' ts' : Tok) (c' : Nat) (h' : Heap) (tks : Nat), 0 ≤ x → x < many → 0 ≤ k' → k' ≤ (ns.length : Int) → 0 ≤ sd' → sd' < 2147483647 → Fr h₀ L h' m → News h₀ L h' (g (dealO n k' sd' tk' ts' c')) → Q (.int x t) { s with heap := h', toks := tks }) :
    wpAny (model PySem.Challenge.rw_nz0560_01.row.prog w) (ktrTop dp un gd cna cs L a ccd cl outer) (call (.ref 145) [.ref d, .int many tm]) Q E s :=
  does_use (c_take w p loose mean mg mb news g d n k sd many tk ts tm c cn vs ns U hn hnd hi hk0 hk1 hl hs0 hs1 hm0 hm1) B F X N T hk hd hu fun r n' h' tk' F' N' P => by
    obtain ⟨o', ⟨x, t, k', sd', tk'', ts', c', rfl, a1, a2, rfl, a3, a4, a5, a6⟩, rfl⟩ := P
    exact ret x t k' sd' tk'' ts' c' h' tk' a1 a2 a3 a4 a5 a6 F' N'
local macro_rules | `(tactic| walk_at "call ref") => `(tactic| (k_here; k_dflt (refine' take_use ?k1 ?k2 ?k3 ?k4 ?k5 ?kK ?kU ?kn ?ki ?kd ?q1 ?q2 ?q3 ?q4 ?q5 ?q6 ?q7 ?kr ?ku ?_; (case k1 => k_asm); (case k2 => k_asm); (case k3 => k_asm); (case k4 => k_asm); (case k5 => k_asm); (case kK => first | exact rfl | assumption); (case kU => k_updF); (case kn => k_mem); (case ki => assumption); (case kd => first | assumption | omega); (case q1 => omega); (case q2 => omega); (case q3 => omega); (case q4 => omega); (case q5 => omega); (case q6 => omega); (case q7 => omega); (case kr => ktr_room); (case ku => ktr_units); intro x9 t9 k9 sd9 tk9 ts9 c9 h9 tks9 b1 b2 b3 b4 b5 b6 F9 N9; (try dsimp only at N9); (try dsimp only); (try k_fold))))
local macro_rules | `(tactic| is_list) => `(tactic| exact News.isList (by k_asm) (by k_mem))
local macro_rules | `(tactic| k_all) => `(tactic| assumption)
local macro_rules | `(tactic| k_mem) => `(tactic| assumption)
local macro_rules | `(tactic| k_all) => `(tactic| (refine' allLt_ne ?hA ?hB; (case hA => assumption); (case hB => omega)))
set_option maxRecDepth 100000 in
set_option maxHeartbeats 8000000 in
theorem c_octet0 (w : World) (p : Program) (loose : List Str) (mean : ExcName → Option Value) (mg mb : Str → Option Value) (rest : List (Addr × Obj)) (d n : Addr) (k sd : Int) (tk ts : Tok) (c cn : Nat) (vs : List Value) (ns : List Int) (hne : ∀ p ∈ rest, p.1 ≠ d) (hn : (n, numO vs cn) ∈ rest) (hnd : @Ne Nat n d) (hi : IntsAre vs ns) (hk0 : 0 ≤ k) (hk1 : k ≤ (ns.length : Int)) (hl : ns.length ≤ 32) (hs0 : 0 ≤ sd) (hs1 : sd < 2147483647) :
   Does PySem.Challenge.rw_nz0560_01.row.prog w (KF w.params) p loose mean mg mb 152 2 24 ((d, dealO n k sd tk ts c) :: rest) [.ref d] (fun r n' => ∃ o', Drawn n ns.length 256 r o' ∧ n' = (d, o') :: rest) := by
  (have : PySem.Challenge.rw_nz0560_01 = PySem.Challenge.rw_nz0560_01 ∧ KF = KF := by (k_fill; exact ⟨rfl, rfl⟩)); clear this
  unfold Does
  intro dp un gd cn cs ad ccd cl outer A₀ base h₀ L m s Q E B F X N T hk hd hu hret
  refine wpAny_call ?_
  k_dflt cell_enter
  k_steps
  all_goals first
    | exact hret _ _ _ _ (by k_asm) (by k_asm) ⟨_, ⟨_, _, _, _, _, _, _, rfl, by omega, by omega, rfl, by omega, by omega, by omega, by omega⟩, rfl⟩
    | exact hret _ _ _ _ (by k_asm) (news_tail (by k_asm)) ⟨_, ⟨_, _, _, _, _, _, _, rfl, (getD_bnd (b := 256) (by decide) (by decide) _).1, (getD_bnd (b := 256) (by decide) (by decide) _).2, rfl, by omega, by omega, by omega, by omega⟩, rfl⟩
set_option maxRecDepth 100000 in
set_option maxHeartbeats 8000000 in
theorem c_word0 (w : World) (p : Program) (loose : List Str) (mean : ExcName → Option Value) (mg mb : Str → Option Value) (rest : List (Addr × Obj)) (d n : Addr) (k sd : Int) (tk ts : Tok) (c cn : Nat) (vs : List Value) (ns : List Int) (hne : ∀ p ∈ rest, p.1 ≠ d) (hn : (n, numO vs cn) ∈ rest) (hnd : @Ne Nat n d) (hi : IntsAre vs ns) (hk0 : 0 ≤ k) (hk1 : k ≤ (ns.length : Int)) (hl : ns.length ≤ 32) (hs0 : 0 ≤ sd) (hs1 : sd < 2147483647) :
   Does PySem.Challenge.rw_nz0560_01.row.prog w (KF w.params) p loose mean mg mb 159 2 24 ((d, dealO n k sd tk ts c) :: rest) [.ref d] (fun r n' => ∃ o', Drawn n ns.length 65536 r o' ∧ n' = (d, o') :: rest) := by
  (have : PySem.Challenge.rw_nz0560_01 = PySem.Challenge.rw_nz0560_01 ∧ KF = KF := by (k_fill; exact ⟨rfl, rfl⟩)); clear this
  unfold Does
  intro dp un gd cn cs ad ccd cl outer A₀ base h₀ L m s Q E B F X N T hk hd hu hret
  refine wpAny_call ?_
  k_dflt cell_enter
  k_steps
  all_goals first
    | exact hret _ _ _ _ (by k_asm) (by k_asm) ⟨_, ⟨_, _, _, _, _, _, _, rfl, by omega, by omega, rfl, by omega, by omega, by omega, by omega⟩, rfl⟩
    | exact hret _ _ _ _ (by k_asm) (news_tail (by k_asm)) ⟨_, ⟨_, _, _, _, _, _, _, rfl, (getD_bnd (b := 65536) (by decide) (by decide) _).1, (getD_bnd (b := 65536) (by decide) (by decide) _).2, rfl, by omega, by omega, by omega, by omega⟩, rfl⟩

theorem c_octet (w : World) (p : Program) (loose : List Str) (mean : ExcName → Option Value) (mg mb : Str → Option Value) (news : List (Addr × Obj)) (g : Obj → List (Addr × Obj)) (d n : Addr) (k sd : Int) (tk ts : Tok) (c cn : Nat) (vs : List Value) (ns : List Int) (U : UpdF d (dealO n k sd tk ts c) news g) (hn : (n, numO vs cn) ∈ news) (hnd : @Ne Nat n d) (hi : IntsAre vs ns) (hk0 : 0 ≤ k) (hk1 : k ≤ (ns.length : Int)) (hl : ns.length ≤ 32) (hs0 : 0 ≤ sd) (hs1 : sd < 2147483647) :
   Does PySem.Challenge.rw_nz0560_01.row.prog w (KF w.params) p loose mean mg mb 152 2 24 news [.ref d] (fun r n' => ∃ o', Drawn n ns.length 256 r o' ∧ n' = g o') :=
  does_upd (H := fun rest => (n, numO vs cn) ∈ rest) (fun rest h1 h2 => c_octet0 w p loose mean mg mb rest d n k sd tk ts c cn vs ns h1 h2 hnd hi hk0 hk1 hl hs0 hs1) U (fun rest h => h _ hn hnd)
theorem octet_use {w : World} {p : Program} {loose : List Str} {mean : ExcName → Option Value} {mg mb : Str → Option Value} {news : List (Addr × Obj)} {g : Obj → List (Addr × Obj)} {d n : Addr} {k sd : Int} {tk ts : Tok} {c cn : Nat} {vs : List Value} {ns : List Int}
    {dp un : Nat} {gd : Option (List Code)} {cna : Str} {cs : Scope} {a : Addr} {ccd : Value} {cl : List (Str × Addr)} {outer : List Env} {A₀ : Around} {base h₀ : Heap} {L : Addr} {m : Str → Option Value} {s : Shared} {Q E : Value → Shared → Prop}
    (B : Below A₀ base outer h₀) (F : Fr h₀ L s.heap m) (X : (KF w.params).In h₀) (N : News h₀ L s.heap news) (T : Top p loose mean mg mb h₀) (hk : cs.kind = .function) (U : UpdF d (dealO n k sd tk ts c) news g) (hn : (n, numO vs cn) ∈ news) (hi : IntsAre vs ns) (hnd : @Ne Nat n d) (hk0 : 0 ≤ k) (hk1 : k ≤ (ns.length : Int)) (hl : ns.length ≤ 32) (hs0 : 0 ≤ sd) (hs1 : sd < 2147483647)
    (hd : dp + 2 < recursionLimit) (hu : un + 24 < cLine)
    (ret : ∀ (x : Int) (t : Tok) (k' sd' : Int) (tk' ts' : Tok) (c' : Nat) (h' : Heap) (tks : Nat), 0 ≤ x → x < 256 → 0 ≤ k' → k' ≤ (ns.length : Int) → 0 ≤ sd' → sd' < 2147483647 → Fr h₀ L h' m → News h₀ L h' (g (dealO n k' sd' tk' ts' c')) → Q (.int x t) { s with heap := h', toks := tks }) :
    wpAny (model PySem.Challenge.rw_nz0560_01.row.prog w) (ktrTop dp un gd cna cs L a ccd cl outer) (call (.ref 152) [.ref d]) Q E s :=
  does_use (c_octet w p loose mean mg mb news g d n k sd tk ts c cn vs ns U hn hnd hi hk0 hk1 hl hs0 hs1) B F X N T hk hd hu fun r n' h' tk' F' N' P => by
    obtain ⟨o', ⟨x, t, k', sd', tk'', ts', c', rfl, a1, a2, rfl, a3, a4, a5, a6⟩, rfl⟩ := P
    exact ret x t k' sd' tk'' ts' c' h' tk' a1 a2 a3 a4 a5 a6 F' N'

theorem c_word (w : World) (p : Program) (loose : List Str) (mean : ExcName → Option Value) (mg mb : Str → Option Value) (news : List (Addr × Obj)) (g : Obj → List (Addr × Obj)) (d n : Addr) (k sd : Int) (tk ts : Tok) (c cn : Nat) (vs : List Value) (ns : List Int) (U : UpdF d (dealO n k sd tk ts c) news g) (hn : (n, numO vs cn) ∈ news) (hnd : @Ne Nat n d) (hi : IntsAre vs ns) (hk0 : 0 ≤ k) (hk1 : k ≤ (ns.length : Int)) (hl : ns.length ≤ 32) (hs0 : 0 ≤ sd) (hs1 : sd < 2147483647) :
   Does PySem.Challenge.rw_nz0560_01.row.prog w (KF w.params) p loose mean mg mb 159 2 24 news [.ref d] (fun r n' => ∃ o', Drawn n ns.length 65536 r o' ∧ n' = g o') :=
  does_upd (H := fun rest => (n, numO vs cn) ∈ rest) (fun rest h1 h2 => c_word0 w p loose mean mg mb rest d n k sd tk ts c cn vs ns h1 h2 hnd hi hk0 hk1 hl hs0 hs1) U (fun rest h => h _ hn hnd)
theorem word_use {w : World} {p : Program} {loose : List Str} {mean : ExcName → Option Value} {mg mb : Str → Option Value} {news : List (Addr × Obj)} {g : Obj → List (Addr × Obj)} {d n : Addr} {k sd : Int} {tk ts : Tok} {c cn : Nat} {vs : List Value} {ns : List Int}
    {dp un : Nat} {gd : Option (List Code)} {cna : Str} {cs : Scope} {a : Addr} {ccd : Value} {cl : List (Str × Addr)} {outer : List Env} {A₀ : Around} {base h₀ : Heap} {L : Addr} {m : Str → Option Value} {s : Shared} {Q E : Value → Shared → Prop}
    (B : Below A₀ base outer h₀) (F : Fr h₀ L s.heap m) (X : (KF w.params).In h₀) (N : News h₀ L s.heap news) (T : Top p loose mean mg mb h₀) (hk : cs.kind = .function) (U : UpdF d (dealO n k sd tk ts c) news g) (hn : (n, numO vs cn) ∈ news) (hi : IntsAre vs ns) (hnd : @Ne Nat n d) (hk0 : 0 ≤ k) (hk1 : k ≤ (ns.length : Int)) (hl : ns.length ≤ 32) (hs0 : 0 ≤ sd) (hs1 : sd < 2147483647)
    (hd : dp + 2 < recursionLimit) (hu : un + 24 < cLine)
    (ret : ∀ (x : Int) (t : Tok) (k' sd' : Int) (tk' ts' : Tok) (c' : Nat) (h' : Heap) (tks : Nat), 0 ≤ x → x < 65536 → 0 ≤ k' → k' ≤ (ns.length : Int) → 0 ≤ sd' → sd' < 2147483647 → Fr h₀ L h' m → News h₀ L h' (g (dealO n k' sd' tk' ts' c')) → Q (.int x t) { s with heap := h', toks := tks }) :
    wpAny (model PySem.Challenge.rw_nz0560_01.row.prog w) (ktrTop dp un gd cna cs L a ccd cl outer) (call (.ref 159) [.ref d]) Q E s :=
  does_use (c_word w p loose mean mg mb news g d n k sd tk ts c cn vs ns U hn hnd hi hk0 hk1 hl hs0 hs1) B F X N T hk hd hu fun r n' h' tk' F' N' P => by
    obtain ⟨o', ⟨x, t, k', sd', tk'', ts', c', rfl, a1, a2, rfl, a3, a4, a5, a6⟩, rfl⟩ := P
    exact ret x t k' sd' tk'' ts' c' h' tk' a1 a2 a3 a4 a5 a6 F' N'
end Mine
end
section
open PySem PySem.W PySem.Spec PySem.Calls PyProof.Rows
namespace Mine
/-- a fresh dict with texts for keys above the old ledger -/
def Dct (prog : Program) (w : World) (news : List (Addr × Obj)) (kvs : List (Str × Value)) (r : Value) (news' : List (Addr × Obj)) : Prop :=
  ∃ (D : Addr) (o : Obj) (DD : List (PyData × PyData)), r = .ref D ∧ news' = (D, o) :: news ∧ AllLt D news ∧ (D == sysModules) = false ∧ o.IsDictOf (PySem.strKind prog w) kvs ∧ PyProof.V.FlatPairs PyData.str kvs DD
theorem dct_use {prog : Program} {w : World} {K : Frag} {p : Program} {loose : List Str} {mean : ExcName → Option Value} {mg mb : Str → Option Value} {f : Addr} {D U : Nat} {news : List (Addr × Obj)} {vs : List Value} {kvs : List (Str × Value)}
    (C : Does prog w K p loose mean mg mb f D U news vs (Dct prog w news kvs)) {dp un : Nat} {gd : Option (List Code)} {cn : Str} {cs : Scope} {a : Addr} {ccd : Value} {cl : List (Str × Addr)} {outer : List Env} {A₀ : Around} {base h₀ : Heap} {L : Addr} {m : Str → Option Value} {s : Shared} {Q E : Value → Shared → Prop}
    (B : Below A₀ base outer h₀) (F : Fr h₀ L s.heap m) (X : K.In h₀) (N : News h₀ L s.heap news) (T : Top p loose mean mg mb h₀) (hk : cs.kind = .function) (hd : dp + D < recursionLimit) (hu : un + U < cLine)
    (ret : ∀ (D : Addr) (o : Obj) (DD : List (PyData × PyData)) h' tk', Fr h₀ L h' m → News h₀ L h' ((D, o) :: news) → AllLt D news → (D == sysModules) = false → o.IsDictOf (PySem.strKind prog w) kvs → PyProof.V.FlatPairs PyData.str kvs DD → Q (.ref D) { s with heap := h', toks := tk' }) :
    wpAny (model prog w) (ktrTop dp un gd cn cs L a ccd cl outer) (call (.ref f) vs) Q E s := does_use C B F X N T hk hd hu fun r n' h' tk' F' N' P => by
  obtain ⟨D, o, DD, rfl, rfl, a1, a2, a3, a4⟩ := P
  exact ret D o DD h' tk' F' N' a1 a2 a3 a4
/-- a fresh tuple of an int and three bools -/
def Tup4 (news : List (Addr × Obj)) (x : Int) (b1 b2 b3 : Bool) (r : Value) (news' : List (Addr × Obj)) : Prop :=
  ∃ (D : Addr) (t : Tok) (c : Nat), r = .ref D ∧ news' = (D, ({ cls := .type "tuple", data := .seq #[.int x t, .bool b1, .bool b2, .bool b3] c } : Obj)) :: news ∧ AllLt D news
theorem tup4_use {prog : Program} {w : World} {K : Frag} {p : Program} {loose : List Str} {mean : ExcName → Option Value} {mg mb : Str → Option Value} {f : Addr} {D U : Nat} {news : List (Addr × Obj)} {vs : List Value} {x : Int} {b1 b2 b3 : Bool}
    (C : Does prog w K p loose mean mg mb f D U news vs (Tup4 news x b1 b2 b3)) {dp un : Nat} {gd : Option (List Code)} {cn : Str} {cs : Scope} {a : Addr} {ccd : Value} {cl : List (Str × Addr)} {outer : List Env} {A₀ : Around} {base h₀ : Heap} {L : Addr} {m : Str → Option Value} {s : Shared} {Q E : Value → Shared → Prop}
    (B : Below A₀ base outer h₀) (F : Fr h₀ L s.heap m) (X : K.In h₀) (N : News h₀ L s.heap news) (T : Top p loose mean mg mb h₀) (hk : cs.kind = .function) (hd : dp + D < recursionLimit) (hu : un + U < cLine)
    (ret : ∀ (D : Addr) (t : Tok) (c : Nat) h' tk', Fr h₀ L h' m → News h₀ L h' ((D, ({ cls := .type "tuple", data := .seq #[.int x t, .bool b1, .bool b2, .bool b3] c } : Obj)) :: news) → AllLt D news → Q (.ref D) { s with heap := h', toks := tk' }) :
    wpAny (model prog w) (ktrTop dp un gd cn cs L a ccd cl outer) (call (.ref f) vs) Q E s := does_use C B F X N T hk hd hu fun r n' h' tk' F' N' P => by
  obtain ⟨D, t, c, rfl, rfl, hlt⟩ := P
  exact ret D t c h' tk' F' N' hlt
theorem tup4_of {news : List (Addr × Obj)} {x x' : Int} {b1 b1' b2 b2' b3 b3' : Bool} {D : Addr} {t : Tok} {c : Nat} (hl : AllLt D news) (hx : x = x') (h1 : b1 = b1') (h2 : b2 = b2') (h3 : b3 = b3') : Tup4 news x' b1' b2' b3' (.ref D) ((D, ({ cls := .type "tuple", data := .seq #[.int x t, .bool b1, .bool b2, .bool b3] c } : Obj)) :: news) := by
  subst hx h1 h2 h3
  exact ⟨D, t, c, rfl, rfl, hl⟩
theorem sgn8_1 {v : Int} (h : 2 ^ (8 - 1 : Int).toNat ≤ v) : v - 2 ^ Int.toNat 8 = sgn 256 v := by
  unfold sgn
  have h' : (256 / 2 : Int) ≤ v := h
  rw [if_pos h']
  rfl
theorem sgn8_0 {v : Int} (h : ¬ 2 ^ (8 - 1 : Int).toNat ≤ v) : v = sgn 256 v := by
  unfold sgn
  have h' : ¬ (256 / 2 : Int) ≤ v := h
  rw [if_neg h']
theorem sgn16_1 {v : Int} (h : 2 ^ (16 - 1 : Int).toNat ≤ v) : v - 2 ^ Int.toNat 16 = sgn 65536 v := by
  unfold sgn
  have h' : (65536 / 2 : Int) ≤ v := h
  rw [if_pos h']
  rfl
theorem sgn16_0 {v : Int} (h : ¬ 2 ^ (16 - 1 : Int).toNat ≤ v) : v = sgn 65536 v := by
  unfold sgn
  have h' : ¬ (65536 / 2 : Int) ≤ v := h
  rw [if_neg h']
theorem even_all : ∀ v : Fin 256, ((List.map (fun k' => ((v.val : Int).fdiv (2 ^ k'.toNat)).fmod 2) (rangeKs 0 (8 - 0 : Int).toNat)).sum.fmod 2 == 0) = par v.val := by decide +kernel
theorem even_of {v : Int} (h0 : 0 ≤ v) (h1 : v < 256) : ((List.map (fun k' => (v.fdiv (2 ^ k'.toNat)).fmod 2) (rangeKs 0 (8 - 0 : Int).toNat)).sum.fmod 2 == 0) = par v := by
  have := even_all ⟨v.toNat, by omega⟩
  simpa only [Int.toNat_of_nonneg h0] using this
theorem sgn256_lo {v : Int} (h0 : 0 ≤ v) (h1 : v < 256) : -128 ≤ sgn 256 v := by unfold sgn; split <;> omega
theorem sgn256_hi {v : Int} (h0 : 0 ≤ v) (h1 : v < 256) : sgn 256 v < 128 := by unfold sgn; split <;> omega
theorem sgn65536_lo {v : Int} (h0 : 0 ≤ v) (h1 : v < 65536) : -32768 ≤ sgn 65536 v := by unfold sgn; split <;> omega
theorem sgn65536_hi {v : Int} (h0 : 0 ≤ v) (h1 : v < 65536) : sgn 65536 v < 32768 := by unfold sgn; split <;> omega
theorem dct_of {prog : Program} {w : World} {news : List (Addr × Obj)} {kvs kvs' : List (Str × Value)} {D : Addr} {o : Obj} {DD : List (PyData × PyData)} (hl : AllLt D news) (lo : (D == sysModules) = false) (hd : o.IsDictOf (PySem.strKind prog w) kvs') (hf : PyProof.V.FlatPairs PyData.str kvs' DD) (e : kvs' = kvs) : Dct prog w news kvs (.ref D) ((D, o) :: news) := by
  subst e
  exact ⟨D, o, DD, rfl, rfl, hl, lo, hd, hf⟩
theorem bit_eq (r : Int) {k : Int} (hk : 0 ≤ k) : ((r.fdiv k).fmod 2 == 1) = decide (r / k % 2 = 1) := by
  rw [Int.fdiv_eq_ediv_of_nonneg _ hk, Int.fmod_eq_emod_of_nonneg _ (by decide)]
  rfl
theorem zero_eq (r : Int) : (r == 0) = decide (r = 0) := rfl
theorem of_kvs (r : Int) {a b c d : Str} : [(a, Value.bool (decide (127 < r))), (b, Value.bool (r == 0)), (c, Value.bool ((r.fdiv 32).fmod 2 == 1)), (d, Value.bool ((r.fdiv 8).fmod 2 == 1))] = [(a, Value.bool (decide (127 < r))), (b, Value.bool (decide (r = 0))), (c, Value.bool (decide (r / 32 % 2 = 1))), (d, Value.bool (decide (r / 8 % 2 = 1)))] := by
  rw [bit_eq r (by decide), bit_eq r (by decide), zero_eq]
theorem ch1 {lo x hi : Int} (h : lo ≤ x) : (!decide (x < hi)) = !decide (lo ≤ x ∧ x < hi) := by simp [h]
theorem ch0 {lo x hi : Int} (h : ¬ lo ≤ x) : (!decide (lo ≤ x)) = !decide (lo ≤ x ∧ x < hi) := by simp [h]
theorem su8_r (w a b c : Int) : (a + w * (b + c)).fmod (2 ^ Int.toNat 8 : Int) = aR 256 w a b c := Int.fmod_eq_emod_of_nonneg _ (by decide)
theorem su8_c1 {w a b c : Int} (h : 0 ≤ a + w * (b + c)) : (!decide (a + w * (b + c) < (2 ^ Int.toNat 8 : Int))) = aC 256 w a b c := ch1 h
theorem su8_c0 {w a b c : Int} (h : ¬ 0 ≤ a + w * (b + c)) : (!decide (0 ≤ a + w * (b + c))) = aC 256 w a b c := ch0 h
theorem su8_h1 {w a b c : Int} (h : 0 ≤ a.fmod (2 ^ (8 - 4 : Int).toNat : Int) + w * (b.fmod (2 ^ (8 - 4 : Int).toNat : Int) + c)) : (!decide (a.fmod (2 ^ (8 - 4 : Int).toNat : Int) + w * (b.fmod (2 ^ (8 - 4 : Int).toNat : Int) + c) < (2 ^ (8 - 4 : Int).toNat : Int))) = aH 16 w a b c := by
  have ea : a.fmod (2 ^ (8 - 4 : Int).toNat : Int) = a % 16 := Int.fmod_eq_emod_of_nonneg _ (by decide)
  have eb : b.fmod (2 ^ (8 - 4 : Int).toNat : Int) = b % 16 := Int.fmod_eq_emod_of_nonneg _ (by decide)
  rw [ea, eb] at h ⊢
  exact ch1 h
theorem su8_h0 {w a b c : Int} (h : ¬ 0 ≤ a.fmod (2 ^ (8 - 4 : Int).toNat : Int) + w * (b.fmod (2 ^ (8 - 4 : Int).toNat : Int) + c)) : (!decide (0 ≤ a.fmod (2 ^ (8 - 4 : Int).toNat : Int) + w * (b.fmod (2 ^ (8 - 4 : Int).toNat : Int) + c))) = aH 16 w a b c := by
  have ea : a.fmod (2 ^ (8 - 4 : Int).toNat : Int) = a % 16 := Int.fmod_eq_emod_of_nonneg _ (by decide)
  have eb : b.fmod (2 ^ (8 - 4 : Int).toNat : Int) = b % 16 := Int.fmod_eq_emod_of_nonneg _ (by decide)
  rw [ea, eb] at h ⊢
  exact ch0 h
theorem su8_v1 {w a b c : Int} (h : 0 - (2 ^ (8 - 1 : Int).toNat : Int) ≤ sgn 256 a + w * (sgn 256 b + c)) : (!decide (sgn 256 a + w * (sgn 256 b + c) < (2 ^ (8 - 1 : Int).toNat : Int))) = aV 256 w a b c := ch1 (lo := 0 - (2 ^ (8 - 1 : Int).toNat : Int)) h
theorem su8_v0 {w a b c : Int} (h : ¬ 0 - (2 ^ (8 - 1 : Int).toNat : Int) ≤ sgn 256 a + w * (sgn 256 b + c)) : (!decide (0 - (2 ^ (8 - 1 : Int).toNat : Int) ≤ sgn 256 a + w * (sgn 256 b + c))) = aV 256 w a b c := ch0 h
theorem su16_r (w a b c : Int) : (a + w * (b + c)).fmod (2 ^ Int.toNat 16 : Int) = aR 65536 w a b c := Int.fmod_eq_emod_of_nonneg _ (by decide)
theorem su16_c1 {w a b c : Int} (h : 0 ≤ a + w * (b + c)) : (!decide (a + w * (b + c) < (2 ^ Int.toNat 16 : Int))) = aC 65536 w a b c := ch1 h
theorem su16_c0 {w a b c : Int} (h : ¬ 0 ≤ a + w * (b + c)) : (!decide (0 ≤ a + w * (b + c))) = aC 65536 w a b c := ch0 h
theorem su16_h1 {w a b c : Int} (h : 0 ≤ a.fmod (2 ^ (16 - 4 : Int).toNat : Int) + w * (b.fmod (2 ^ (16 - 4 : Int).toNat : Int) + c)) : (!decide (a.fmod (2 ^ (16 - 4 : Int).toNat : Int) + w * (b.fmod (2 ^ (16 - 4 : Int).toNat : Int) + c) < (2 ^ (16 - 4 : Int).toNat : Int))) = aH 4096 w a b c := by
  have ea : a.fmod (2 ^ (16 - 4 : Int).toNat : Int) = a % 4096 := Int.fmod_eq_emod_of_nonneg _ (by decide)
  have eb : b.fmod (2 ^ (16 - 4 : Int).toNat : Int) = b % 4096 := Int.fmod_eq_emod_of_nonneg _ (by decide)
  rw [ea, eb] at h ⊢
  exact ch1 h
theorem su16_h0 {w a b c : Int} (h : ¬ 0 ≤ a.fmod (2 ^ (16 - 4 : Int).toNat : Int) + w * (b.fmod (2 ^ (16 - 4 : Int).toNat : Int) + c)) : (!decide (0 ≤ a.fmod (2 ^ (16 - 4 : Int).toNat : Int) + w * (b.fmod (2 ^ (16 - 4 : Int).toNat : Int) + c))) = aH 4096 w a b c := by
  have ea : a.fmod (2 ^ (16 - 4 : Int).toNat : Int) = a % 4096 := Int.fmod_eq_emod_of_nonneg _ (by decide)
  have eb : b.fmod (2 ^ (16 - 4 : Int).toNat : Int) = b % 4096 := Int.fmod_eq_emod_of_nonneg _ (by decide)
  rw [ea, eb] at h ⊢
  exact ch0 h
theorem su16_v1 {w a b c : Int} (h : 0 - (2 ^ (16 - 1 : Int).toNat : Int) ≤ sgn 65536 a + w * (sgn 65536 b + c)) : (!decide (sgn 65536 a + w * (sgn 65536 b + c) < (2 ^ (16 - 1 : Int).toNat : Int))) = aV 65536 w a b c := ch1 (lo := 0 - (2 ^ (16 - 1 : Int).toNat : Int)) h
theorem su16_v0 {w a b c : Int} (h : ¬ 0 - (2 ^ (16 - 1 : Int).toNat : Int) ≤ sgn 65536 a + w * (sgn 65536 b + c)) : (!decide (0 - (2 ^ (16 - 1 : Int).toNat : Int) ≤ sgn 65536 a + w * (sgn 65536 b + c))) = aV 65536 w a b c := ch0 h
end Mine
end
section
open PySem PySem.W PySem.Spec PySem.Calls PyProof.Rows
set_option maxHeartbeats 2000000
set_option maxRecDepth 100000
namespace Mine
theorem keys_miss : typeLookup (.type "list") (Str.ofString "keys") = pure none := am_miss_of_fast (by decide +kernel)
theorem entry_loop : entryFor table "dict.update.loop" = some Builtin.«dict.update.loop» := entryFor_of_tree (by kernel_rfl)
theorem plain_loop : plainId "dict.update.loop" = true := by decide +kernel
theorem no_keys {prog : Program} {w : World} {A : Around} {E : Value → Shared → Prop} {s : Shared} {a : Addr} {o : Obj} {xs : Array Value} {k : Nat} {Q : Option Value → Shared → Prop}
    (hx : s.heap.get? a = some o) (hc : o.cls = .type "list") (hdat : o.data = .seq xs k) (hd : o.dict = none) (hA : A.handled = none)
    (h : ∀ h' tk, (∀ b ob, s.heap.get? b = some ob → h'.get? b = some ob) → Q none { s with heap := h', toks := tk }) :
    wpAny (model prog w) A (getAttr? (.ref a) (Str.ofString "keys")) Q E s := by
  obtain ⟨c, dct, dat, sl⟩ := o
  simp only at hc hdat hd
  subst hc hdat hd
  obtain ⟨hp, g, d, tk, os⟩ := s
  have hT : ∀ tk', (⟨hp, g, d, tk', os⟩ : Shared).TypeIs (.ref a) "list" := fun _ => ⟨_, hx, rfl⟩
  have f1 := sub_AttributeError
  have f3 := F.slot_list_getattribute.lookup
  have f4 := F.slot_list_getattribute.bind (.ref a)
  have f5 := am_list_getattr_none
  unfold getAttr? getAttrBy? getAttrBy
  repeat (any_goals (first | assumption | exact hT _ | ((with_reducible show wpAny _ _ (call (Value.builtin "list.__getattribute__") _ _) _ _ _); refine call_meets F.slot_list_getattribute (hT _) am_entry_list_getattribute (F.args_list_getattribute_2 _ _) (meets_getattribute_miss_list a xs k sl (Str.ofString "keys") _ keys_miss (by decide +kernel)) ⟨hx, hA, fun h' tk' e hx' => ?_⟩) | wp_step))
  obtain ⟨t', u', he⟩ := hx'.there
  show wpAny _ _ (getattributeRaised _ _ _ _ _ _ _) _ _ _
  unfold getattributeRaised
  repeat (any_goals (first | assumption | wp_step))
  exact h _ _ hx'.keeps
section
variable {prog : Program} {w : World} {K : Type} [DecidableEq K] {knd : KeyKind prog w K} {A : Around} {R : Result → Shared → Prop}
/-- the pairs of the list, as they lie in the heap -/
def PairsAt (knd : KeyKind prog w K) (h : Heap) (items : Array Value) (d I : Addr) (ps : List (K × Value)) : Prop :=
  ∀ (j : Nat) (kv : K × Value), ps[j]? = some kv → ∃ (T : Addr) (o : Obj) (key : Value) (n : Nat), items[j]? = some (.ref T) ∧ h.get? T = some o ∧ o.cls = .type "tuple" ∧ o.data = .seq #[key, kv.2] n ∧ knd.is kv.1 key = true ∧ T ≠ d ∧ T ≠ I
theorem PairsAt.keeps {h h' : Heap} {items : Array Value} {d I : Addr} {ps : List (K × Value)} (x : PairsAt knd h items d I ps) (k : ∀ b o, b ≠ d → b ≠ I → h.get? b = some o → h'.get? b = some o) : PairsAt knd h' items d I ps := fun j kv hj => by
  obtain ⟨T, o, key, n, a1, a2, a3, a4, a5, a6, a7⟩ := x j kv hj
  exact ⟨T, o, key, n, a1, k T o a6 a7 a2, a3, a4, a5, a6, a7⟩
theorem upd_loop {I l d : Addr} {items : Array Value} {ps : List (K × Value)} (hh : A.handled = none) (hI : l ≠ I) (hdI : d ≠ I) (hdl : d ≠ l) (hlen : items.size = ps.length) (hsz : ps.length ≤ sizeLine) :
    ∀ (k i : Nat) (s : Shared) (j : Int) (tk : Tok), ps.length - i = k → i ≤ ps.length → (s.heap.IsListIter I l i ∧ s.heap.IsList l items) → PairsAt knd s.heap items d I ps → s.heap.DictOf knd d (merged [] (ps.take i)) →
      (∀ h' tk', (∀ b o, b ≠ d → b ≠ I → s.heap.get? b = some o → h'.get? b = some o) → h'.DictOf knd d (merged [] ps) → R (.ok (.ret .none)) { s with heap := h', toks := tk' }) →
      codeAny (model prog w) A (.builtin "dict.update.loop" ⟨[.ref d, .ref I, .int j tk, .none], []⟩) R s := by
  intro k
  have W := Walks.list (prog := prog) (w := w) (A := A.in1) (by simpa using hh) I l hI items
  induction k with
  | zero =>
    intro i s j tk hk hi hst hP hD hR
    have hin : i = ps.length := by omega
    subst hin
    refine codeAny_builtin entry_loop ?_
    rw [Around.under_plainId plain_loop _]
    show wpAny _ A.in1 (pyNext (.ref I) >>= _) _ _ s
    refine wpAny_bind (W.done s _ _ (by rw [hlen]; exact hst) fun h' tk' hk' => ?_)
    show wpAny _ A.in1 (Builtin.Dict.addKeywords d [] >>= _) _ _ _
    refine wpAny_bind (wpAny_pure (wpAny_pure (hR h' tk' (fun b o h1 h2 e => hk' b o (by simpa using h2) e) ?_)))
    rw [List.take_length] at hD
    obtain ⟨o, es, ep, ho, rest⟩ := hD
    exact ⟨o, es, ep, hk' d o (by simpa using hdI) ho, rest⟩
  | succ k ih =>
    intro i s j tk hk hi hst hP hD hR
    have hlt : i < ps.length := by omega
    refine codeAny_builtin entry_loop ?_
    rw [Around.under_plainId plain_loop _]
    show wpAny _ A.in1 (pyNext (.ref I) >>= _) _ _ s
    refine wpAny_bind (W.item i s _ _ (by omega) hst fun v h' tk' hv hst' hk' => ?_)
    obtain ⟨⟨key0, val0⟩, hkv⟩ : ∃ p, ps[i]? = some p := ⟨ps[i], by simp [hlt]⟩
    obtain ⟨T, o, key, n, a1, a2, a3, a4, a5, a6, a7⟩ := hP i _ hkv
    rw [a1] at hv
    obtain rfl : v = .ref T := (Option.some.inj hv).symm
    have hT := hk' T o (by simpa using a7) a2
    have hD' : h'.DictOf knd d (merged [] (ps.take i)) := by
      obtain ⟨o, es, ep, ho, rest⟩ := hD
      exact ⟨o, es, ep, hk' d o (by simpa using hdI) ho, rest⟩
    have hP' : PairsAt knd h' items d I ps := hP.keeps fun b o h1 h2 e => hk' b o (by simpa using h2) e
    show wpAny _ A.in1 (holding _ _ >>= _) _ _ _
    refine wpAny_bind (wpAny_holding (wpAny_bind (wpAny_tryCatch ?_)))
    unfold Builtin.Dict.pairItems
    refine wpAny_bind (wpAny_typeOf (T := "tuple") ⟨o, hT, a3⟩ ?_)
    rw [if_pos (by decide)]
    refine wpAny_bind (wpAny_seqItems hT a4 (wpAny_pure ?_))
    dsimp only [Option.getD]
    have hmx : (merged [] (ps.take i)).length ≤ sizeLine := by
      have e1 := merged_length_le [] (ps.take i)
      have e2 : (ps.take i).length ≤ ps.length := by rw [List.length_take]; omega
      simp only [List.length_nil, Nat.zero_add] at e1
      omega
    refine wpAny_holding (wpAny_dictSet_pairs (hsz := hmx) a5 hD' fun h'' hd'' hs'' => ?_)
    refine wpAny_pure ⟨plainId_quiet plain_loop _, ih (i + 1) _ _ _ (by omega) hlt ?_ ?_ ?_ fun h3 tk3 k3 d3 => hR h3 tk3 (fun b o h1 h2 e => ?_) d3⟩
    · exact ⟨hst'.1.at fun o e => (hs''.2 I (Ne.symm hdI)).trans e, hst'.2.at fun o e => (hs''.2 l (Ne.symm hdl)).trans e⟩
    · exact hP'.keeps fun b o h1 h2 e => (hs''.2 b h1).trans e
    · rw [merged_take_succ [] ps i _ hkv]; exact hd''
    · exact k3 b o h1 h2 ((hs''.2 b h1).trans (hk' b o (by simpa using h2) e))
end
section
variable {prog : Program} {w : World} {K : Type} [DecidableEq K] {knd : KeyKind prog w K} {A : Around} {E : Value → Shared → Prop} {s : Shared}
theorem call_dict_pairs {l : Addr} {ol : Obj} {items : Array Value} {n : Nat} {ps : List (K × Value)} {Q : Value → Shared → Prop} (hh : A.handled = none) (hl : s.heap.get? l = some ol) (hc : ol.cls = .type "list") (hdc : ol.dict = none) (hd : ol.data = .seq items n)
    (hP : ∀ (j : Nat) (kv : K × Value), ps[j]? = some kv → ∃ (T : Addr) (o : Obj) (key : Value) (n : Nat), items[j]? = some (.ref T) ∧ s.heap.get? T = some o ∧ o.cls = .type "tuple" ∧ o.data = .seq #[key, kv.2] n ∧ knd.is kv.1 key = true)
    (hlen : items.size = ps.length) (hsz : ps.length ≤ sizeLine) (hn : (ps.map (·.1)).Nodup)
    (h : ∀ h' tk, h'.DictOf knd s.heap.objs.size ps → (∀ b o, s.heap.get? b = some o → h'.get? b = some o) → Q (.ref s.heap.objs.size) { s with heap := h', toks := tk }) :
    wpAny (model prog w) A (call (.type "dict") [.ref l]) Q E s := by
  refine callType_codes (Q₁ := fun obj s₁ => obj = .ref s.heap.objs.size ∧ s₁ = { s with heap := s.heap.push { cls := .type "dict", data := .dict #[] } }) PySem.F.kt_called_dict (PySem.F.kt_typeCall_dict_1 _) PySem.F.entry_dict_init (kt_code_dict_new _ ⟨rfl, rfl⟩) ?_
  rintro obj s₁ ⟨rfl, rfl⟩
  have hnew : (s.heap.push { cls := .type "dict", data := .dict #[] }).DictOf knd s.heap.objs.size [] := Heap.DictOf.new s.heap
  have hl1 : (s.heap.push { cls := .type "dict", data := .dict #[] }).get? l = some ol := Heap.get?_push_of_some _ hl
  have hls : l < s.heap.objs.size := Heap.lt_size hl
  refine ⟨hnew.typeIs, PySem.F.args_dict_init_2 _ _, ?_⟩
  unfold Builtin.«dict.__init__»
  refine wpAny_bind ?_
  unfold Builtin.Dict.selfAndRest
  refine wpAny_bind (wpAny_notOrdered_dict hnew.typeIs ?_)
  show wpAny _ _ (pure (s.heap.objs.size, [Value.ref l])) _ _ _
  refine wpAny_pure ?_
  show wpAny _ _ (Builtin.Dict.updateFrom "dict.__init__" s.heap.objs.size (.ref l) [] .none) _ _ _
  unfold Builtin.Dict.updateFrom
  refine wpAny_bind (wpAny_typeOf (T := "list") ⟨ol, hl1, hc⟩ ?_)
  rw [if_pos (by decide)]
  refine wpAny_bind (no_keys hl1 hc hd hdc (by simpa using hh) fun h1 tk1 k1 => ?_)
  rw [if_pos (by rfl)]
  refine wpAny_bind (wpAny_rule (wpAny_bind ?_))
  have hl2 : h1.IsList l items := ⟨ol, k1 _ _ hl1, hc, n, hd⟩
  refine wpAny_pyIter_list hl2 ?_
  have hd2 : h1.DictOf knd s.heap.objs.size [] := by
    obtain ⟨o, es, ep, ho, rest⟩ := hnew
    exact ⟨o, es, ep, k1 _ _ ho, rest⟩
  have hdlt : s.heap.objs.size < h1.objs.size := by
    obtain ⟨o, es, ep, ho, rest⟩ := hd2
    exact Heap.lt_size ho
  have hlt : l < h1.objs.size := Nat.lt_trans hls hdlt
  refine wpAny_pure ⟨plainId_quiet plain_loop _, upd_loop (knd := knd) (by simpa using hh) (Nat.ne_of_lt hlt) (Nat.ne_of_lt hdlt) (Nat.ne_of_gt hls) hlen hsz _ 0 _ _ _ rfl (Nat.zero_le _) ⟨⟨_, Heap.get?_push_size _ rfl, rfl, rfl⟩, hl2.push _⟩ ?_ ?_ fun h3 tk3 k3 d3 => ?_⟩
  · intro j kv hj
    obtain ⟨T, o, key, m, a1, a2, a3, a4, a5⟩ := hP j kv hj
    have hTs : T < s.heap.objs.size := Heap.lt_size a2
    exact ⟨T, o, key, m, a1, Heap.get?_push_of_some _ (k1 _ _ (Heap.get?_push_of_some _ a2)), a3, a4, a5, Nat.ne_of_lt hTs, Nat.ne_of_lt (Nat.lt_trans hTs hdlt)⟩
  · exact hd2.push _
  · rw [merged_nil_of_nodup ps hn] at d3
    refine ⟨rfl, h h3 tk3 d3 fun b o e => ?_⟩
    have hb : b < s.heap.objs.size := Heap.lt_size e
    exact k3 b o (Nat.ne_of_lt hb) (Nat.ne_of_lt (Nat.lt_trans hb hdlt)) (Heap.get?_push_of_some _ (k1 _ _ (Heap.get?_push_of_some _ e)))
end
section
variable {prog : Program} {w : World} {K : Type} [DecidableEq K] {knd : KeyKind prog w K} {A : Around} {E : Value → Shared → Prop} {s : Shared} {h₀ : Heap} {L : Addr} {m : Str → Option Value} {news : List (Addr × Obj)}
theorem dict_pairs_N {l : Addr} {items : Array Value} {n : Nat} {ps : List (K × Value)} {Q : Value → Shared → Prop} (F : Fr h₀ L s.heap m) (N : News h₀ L s.heap news) (hbig : sysModules < h₀.objs.size) (hh : A.handled = none)
    (hl : (l, ({ cls := .type "list", data := .seq items n } : Obj)) ∈ news)
    (hP : ∀ (j : Nat) (kv : K × Value), ps[j]? = some kv → ∃ (T : Addr) (key : Value) (n : Nat), items[j]? = some (.ref T) ∧ (T, ({ cls := .type "tuple", data := .seq #[key, kv.2] n } : Obj)) ∈ news ∧ knd.is kv.1 key = true)
    (hlen : items.size = ps.length) (hsz : ps.length ≤ sizeLine) (hn : (ps.map (·.1)).Nodup)
    (k : ∀ h' tk o, Fr h₀ L h' m → News h₀ L h' ((s.heap.objs.size, o) :: news) → (s.heap.objs.size == sysModules) = false → o.IsDictOf knd ps → AllLt s.heap.objs.size news → Q (.ref s.heap.objs.size) { s with heap := h', toks := tk }) :
    wpAny (model prog w) A (call (.type "dict") [.ref l]) Q E s := by
  refine call_dict_pairs (knd := knd) hh (N _ hl).1 rfl rfl rfl (fun j kv hj => ?_) hlen hsz hn fun h' tk hd hk => ?_
  · obtain ⟨T, key, n, a1, a2, a3⟩ := hP j kv hj
    exact ⟨T, _, key, n, a1, (N _ a2).1, rfl, rfl, a3⟩
  · obtain ⟨o, ho, hdo⟩ := Heap.dictOf_iff.mp hd
    obtain ⟨oL, _, _, hL, _⟩ := F.ns
    have hLlt : L < s.heap.objs.size := Heap.lt_size hL
    refine k h' tk o ⟨F.ns.at' fun o' e => hk L o' e, fun b o' e => hk b o' (F.keep b o' e), F.above⟩ (fun p hp => ?_) (F.notModules hbig) hdo (allLt_of fun p hp => Heap.lt_size (N p hp).1)
    rcases List.mem_cons.mp hp with rfl | hp
    · refine ⟨ho, Nat.ne_of_gt hLlt, ?_⟩
      cases hq : h₀.get? s.heap.objs.size with
      | none => rfl
      | some o' => exact absurd (Heap.lt_size (F.keep _ _ hq)) (Nat.lt_irrefl _)
    · exact ⟨hk _ _ (N p hp).1, (N p hp).2.1, (N p hp).2.2⟩
end
end Mine
end
section
open PySem PySem.W PySem.Spec PySem.Calls PyProof.Rows PyProof.Rows.LCg PyProof.Rows.LCt
namespace Mine
/-- the end of a turn of a comprehension that has made one object -/
theorem ce_tup {h₀ : Heap} {L I C D T : Addr} {m : Str → Option Value} {s₁ : Shared} {oI oC oD oT : Obj} {S : List (Addr × Obj) → Prop} {rest : Value → List (Addr × Obj) → Prop} {y : Value} {h' : Heap} {tk : Nat} {rs : List (Addr × Obj)}
    (F : Fr h₀ L h' m) (N : News h₀ L h' ((T, oT) :: (I, oI) :: (C, oC) :: (D, oD) :: rs)) (lt : AllLt T ((I, oI) :: (C, oC) :: (D, oD) :: rs)) (off : Off3 I C D rs) (hS : S ((T, oT) :: rs)) (r : rest y ((T, oT) :: rs)) :
    CompEnd h₀ L m s₁ I oI C oC D oD S rest y { s₁ with heap := h', toks := tk } := by
  refine CompEnd.intro F N ((T, oT) :: rs) (fun p hp => ?_) ⟨⟨Nat.ne_of_gt lt.1, Nat.ne_of_gt lt.2.1, Nat.ne_of_gt lt.2.2.1⟩, off⟩ hS r
  rcases List.mem_cons.mp hp with rfl | hp
  · exact .tail _ (.head _)
  rcases List.mem_cons.mp hp with rfl | hp
  · exact .tail _ (.tail _ (.head _))
  rcases List.mem_cons.mp hp with rfl | hp
  · exact .tail _ (.tail _ (.tail _ (.head _)))
  rcases List.mem_cons.mp hp with rfl | hp
  · exact .head _
  · exact .tail _ (.tail _ (.tail _ (.tail _ hp)))
abbrev pairO (k v : Value) (n : Nat) : Obj := { cls := .type "tuple", data := .seq #[k, v] n }
theorem dict_pairs3 {prog : Program} {w : World} {A : Around} {E : Value → Shared → Prop} {s : Shared} {h₀ : Heap} {L : Addr} {m : Str → Option Value} {news : List (Addr × Obj)} {l T1 T2 T3 : Addr} {k1 k2 k3 : Str} {t1 t2 t3 : Tok} {v1 v2 v3 : Value} {n1 n2 n3 : Nat} {Q : Value → Shared → Prop}
    {p : Program} {loose : List Str} {mean : ExcName → Option Value} {mg mb : Str → Option Value} (F : Fr h₀ L s.heap m) (N : News h₀ L s.heap news) (T : Top p loose mean mg mb h₀) (hh : A.handled = none)
    (hl : (l, lst [.ref T1, .ref T2, .ref T3]) ∈ news) (h1 : (T1, pairO (.str k1 t1) v1 n1) ∈ news) (h2 : (T2, pairO (.str k2 t2) v2 n2) ∈ news) (h3 : (T3, pairO (.str k3 t3) v3 n3) ∈ news) (hn : [k1, k2, k3].Nodup)
    (k : ∀ d h' tk o, Fr h₀ L h' m → News h₀ L h' ((d, o) :: news) → (d == sysModules) = false → o.IsDictOf (PySem.strKind prog w) [(k1, v1), (k2, v2), (k3, v3)] → AllLt d news → Q (.ref d) { s with heap := h', toks := tk }) :
    wpAny (model prog w) A (call (.type "dict") [.ref l]) Q E s := by
  refine dict_pairs_N (knd := PySem.strKind prog w) (ps := [(k1, v1), (k2, v2), (k3, v3)]) F N (modules_low (Top.nolimit T)) hh hl (fun j kv hj => ?_) rfl (by rw [PySem.sizeLine_eq]; show 3 ≤ _; decide) hn fun h' tk o F' N' a b c => k _ h' tk o F' N' a b c
  match j, hj with
  | 0, hj => obtain rfl := Option.some.inj hj; exact ⟨T1, _, n1, rfl, h1, strKind_is _ _ _ _⟩
  | 1, hj => obtain rfl := Option.some.inj hj; exact ⟨T2, _, n2, rfl, h2, strKind_is _ _ _ _⟩
  | 2, hj => obtain rfl := Option.some.inj hj; exact ⟨T3, _, n3, rfl, h3, strKind_is _ _ _ _⟩
  | j + 3, hj => exact absurd hj (by simp)
theorem flat3 {k1 k2 k3 : Str} {b1 b2 b3 : Bool} : ∃ D, PyProof.V.FlatPairs PyData.str [(k1, Value.bool b1), (k2, Value.bool b2), (k3, Value.bool b3)] D := ⟨_, .cons (.bool _) (.cons (.bool _) (.cons (.bool _) .nil))⟩
theorem news_head {h₀ h : Heap} {L : Addr} {x : Addr × Obj} {big news : List (Addr × Obj)} (N : News h₀ L h (x :: big)) (hs : ∀ p ∈ news, p ∈ big) : News h₀ L h (x :: news) := fun p hp => by
  rcases List.mem_cons.mp hp with rfl | hp
  · exact N _ (.head _)
  · exact N _ (.tail _ (hs p hp))
theorem news_sub {h₀ h : Heap} {L : Addr} {big news : List (Addr × Obj)} (N : News h₀ L h big) (hs : ∀ p ∈ news, p ∈ big) : News h₀ L h news := fun p hp => N p (hs p hp)
theorem allLt_mem {x : Nat} : ∀ {r : List (Addr × Obj)}, AllLt x r → ∀ p ∈ r, @LT.lt Nat _ p.1 x
  | [], _, _, hp => nomatch hp
  | q :: r, h, p, hp => by
    rcases List.mem_cons.mp hp with rfl | hp
    · exact h.1
    · exact allLt_mem h.2 p hp
theorem allLt_sub {x : Nat} {big news : List (Addr × Obj)} (l : AllLt x big) (hs : ∀ p ∈ news, p ∈ big) : AllLt x news := allLt_of fun p hp => allLt_mem l p (hs p hp)
theorem dct3 {prog : Program} {w : World} {news : List (Addr × Obj)} {k1 k2 k3 : Str} {b1 b2 b3 b1' b2' b3' : Bool} {D : Addr} {o : Obj} (hl : AllLt D news) (lo : (D == sysModules) = false) (hd : o.IsDictOf (PySem.strKind prog w) [(k1, Value.bool b1), (k2, Value.bool b2), (k3, Value.bool b3)]) (e1 : b1 = b1') (e2 : b2 = b2') (e3 : b3 = b3') :
    Dct prog w news [(k1, Value.bool b1'), (k2, Value.bool b2'), (k3, Value.bool b3')] (.ref D) ((D, o) :: news) := by
  subst e1 e2 e3
  obtain ⟨DD, hf⟩ := flat3 (k1 := k1) (k2 := k2) (k3 := k3) (b1 := b1) (b2 := b2) (b3 := b3)
  exact dct_of hl lo hd hf rfl
section
variable {kvs r : List (Str × Value)} {k k' : Str} {v d : Value} {b : Bool}
theorem va_hit : valueAt (stored kvs k v) k = some v := by
  unfold valueAt stored
  split
  · rename_i h
    induction kvs with
    | nil => simp at h
    | cons q t ih =>
      rw [List.map_cons, List.find?_cons]
      by_cases e : q.1 = k
      · simp [e]
      · have ht : (t.any fun kv => decide (kv.1 = k)) = true := by simpa [e] using h
        simp only [e, if_false, decide_false]
        exact ih ht
  · rename_i h
    induction kvs with
    | nil => simp
    | cons q t ih =>
      have e : ¬ q.1 = k := by
        intro e
        exact h (by simp [e])
      rw [List.cons_append, List.find?_cons]
      simp only [e, decide_false]
      exact ih (by intro q; exact h (by simp at q ⊢; exact .inr q))
theorem va_miss (hk : k ≠ k') : valueAt (stored kvs k v) k' = valueAt kvs k' := by
  unfold valueAt stored
  congr 1
  split
  · rename_i hh
    clear hh
    induction kvs with
    | nil => rfl
    | cons q t ih =>
      rw [List.map_cons, List.find?_cons, List.find?_cons]
      by_cases e : q.1 = k
      · have : ¬ q.1 = k' := fun h => hk (e.symm.trans h)
        simp only [e, if_true, hk, decide_false]
        exact ih
      · simp only [e, if_false]
        split <;> first | rfl | exact ih
  · rw [List.find?_append]
    cases hq : List.find? (fun kv => decide (kv.1 = k')) kvs with
    | some _ => rfl
    | none => simp [hk]
theorem vg_hit : (valueAt (stored kvs k (.bool b)) k).getD d = .bool b := by rw [va_hit]; rfl
theorem vg_miss (hk : k ≠ k') (e : (valueAt kvs k').getD d = .bool b) : (valueAt (stored kvs k v) k').getD d = .bool b := by rw [va_miss hk]; exact e
theorem vc_hit : (valueAt ((k, Value.bool b) :: r) k).getD d = .bool b := by simp [valueAt]
theorem vc_miss (hk : k ≠ k') (e : (valueAt r k').getD d = .bool b) : (valueAt ((k, v) :: r) k').getD d = .bool b := by
  rw [← e]; unfold valueAt; simp [hk]
theorem vn {K : Type} [DecidableEq K] {k : K} : (valueAt ([] : List (K × Value)) k).getD (.bool false) = .bool false := rfl
theorem line_st {n m : Nat} (h : kvs.length + 1 + m ≤ n) : (stored kvs k v).length + m ≤ n := Nat.le_trans (Nat.add_le_add_right (stored_length_le kvs k v) m) h
theorem line_0 {l n : Nat} (h : l + 0 ≤ n) : l ≤ n := h
end
theorem ltN {h₀ h : Heap} {L : Addr} {big news : List (Addr × Obj)} (N : News h₀ L h big) (hs : ∀ p ∈ news, p ∈ big) : AllLt h.objs.size news := allLt_of fun p hp => Heap.lt_size (N p (hs p hp)).1
theorem f2_eq (f : Int) : (f.fmod 2 == 1) = decide (f % 2 = 1) := by
  rw [Int.fmod_eq_emod_of_nonneg _ (by decide)]
  rfl
end Mine
end
section
open PySem PySem.W PySem.Spec PySem.Calls PyProof.Rows PyProof.Rows.LCg PyProof.Rows.LCt
namespace Mine
theorem fm_lo (f : Int) : 0 ≤ f.fmod 2 := Int.fmod_nonneg_of_pos _ (by decide)
theorem fm_hi (f : Int) : f.fmod 2 ≤ 1 := Int.lt_add_one_iff.mp (Int.fmod_lt_of_pos _ (by decide))
theorem w_eq (r : Int) {k : Int} (hk : 0 ≤ k) : (((r.fdiv 256).fdiv k).fmod 2 == 1) = decide (r / 256 / k % 2 = 1) := by
  rw [Int.fdiv_eq_ediv_of_nonneg r (by decide)]
  exact bit_eq _ hk
section
variable {r : List (Value × Value)} {k k' : Str} {v d : Value} {b : Bool} {t : Tok}
theorem vs_hit : (valueAt (strPairs ((Value.str k t, Value.bool b) :: r)) k).getD d = .bool b := vc_hit
theorem vs_miss (hk : k ≠ k') (e : (valueAt (strPairs r) k').getD d = .bool b) : (valueAt (strPairs ((Value.str k t, v) :: r)) k').getD d = .bool b := vc_miss hk e
theorem vn0 : (valueAt ([] : List (Str × Value)) k).getD (.bool false) = .bool false := rfl
theorem vs_nil : (valueAt (strPairs []) k).getD (.bool false) = .bool false := rfl
end
def wW (n : Int) : Int := if n = 2 then -1 else 1
def wC (n f : Int) : Int := if 0 < n then f.fmod 2 else 0
def wF (n x y f : Int) : Int := if 0 < n then wdF (wW n) x y (wC n f) else a16F x y f
theorem wW_lo (n : Int) : -1 ≤ wW n := by unfold wW; split <;> decide
theorem wW_hi (n : Int) : wW n ≤ 1 := by unfold wW; split <;> decide
theorem wW_neg (n : Int) : (n == 2) = decide (wW n < 0) := by
  unfold wW
  by_cases h : n = 2
  · subst h; rfl
  · rw [if_neg h]; simp [h]
theorem words_1 {n x y f : Int} (h : 0 < n) : fl (decide (32767 < aR 65536 (wW n) x y (wC n f))) (aR 65536 (wW n) x y (wC n f) == 0) ((((aR 65536 (wW n) x y (wC n f)).fdiv 256).fdiv 32).fmod 2 == 1) (aH 4096 (wW n) x y (wC n f)) ((((aR 65536 (wW n) x y (wC n f)).fdiv 256).fdiv 8).fmod 2 == 1) (aV 65536 (wW n) x y (wC n f)) (n == 2) (aC 65536 (wW n) x y (wC n f)) = wF n x y f := by
  unfold wF
  rw [if_pos h, w_eq _ (by decide), w_eq _ (by decide), wW_neg]
  rfl
theorem words_0 {n x y f : Int} (h0 : 0 ≤ n) (h : ¬ 0 < n) : fl (decide (f / 128 % 2 = 1)) (decide (f / 64 % 2 = 1)) ((((aR 65536 (wW n) x y (wC n f)).fdiv 256).fdiv 32).fmod 2 == 1) (aH 4096 (wW n) x y (wC n f)) ((((aR 65536 (wW n) x y (wC n f)).fdiv 256).fdiv 8).fmod 2 == 1) (decide (f / 4 % 2 = 1)) (n == 2) (aC 65536 (wW n) x y (wC n f)) = wF n x y f := by
  obtain rfl : n = 0 := by omega
  unfold wF
  rw [if_neg h, w_eq _ (by decide), w_eq _ (by decide)]
  rfl
end Mine
end
section
open PySem PySem.W PySem.Spec PySem.Calls PyProof.Rows
namespace Mine
/-- a goal that the walk leaves alone -/
def Hold (p : Prop) : Prop := p
theorem unhold {p : Prop} (h : Hold p) : p := h
section
variable {M : Model} {A : Around} {E : Value → Shared → Prop} {s : Shared} {t : Sem Value} {Q : Value → Shared → Prop}
/-- an expression that changes nothing and hands back the bool B, whichever way it goes -/
def PureB (B : Bool) (s : Shared) (v : Value) (s' : Shared) : Prop := v = .bool B ∧ ∃ tk, s' = { s with toks := tk }
def PureI (W : Int) (s : Shared) (v : Value) (s' : Shared) : Prop := (∃ t, v = .int W t) ∧ ∃ tk, s' = { s with toks := tk }
theorem PureB.intro {B B' : Bool} {tk : Nat} (e : B' = B) : PureB B s (.bool B') { s with toks := tk } := ⟨by rw [e], tk, rfl⟩
theorem PureI.intro {W W' : Int} {t : Tok} {tk : Nat} (e : W' = W) : PureI W s (.int W' t) { s with toks := tk } := ⟨⟨t, by rw [e]⟩, tk, rfl⟩
theorem joinB (B : Bool) (h1 : wpAny M A t (PureB B s) E s) (h2 : ∀ tk, Q (.bool B) { s with toks := tk }) : wpAny M A t Q E s :=
  wpAny_mono h1 (fun v s' ⟨hv, tk, e⟩ => by subst hv e; exact h2 tk) fun _ _ e => e
theorem joinI (W : Int) (h1 : wpAny M A t (PureI W s) E s) (h2 : ∀ t tk, Q (.int W t) { s with toks := tk }) : wpAny M A t Q E s :=
  wpAny_mono h1 (fun v s' ⟨⟨u, hv⟩, tk, e⟩ => by subst hv e; exact h2 u tk) fun _ _ e => e
/-- the same, where the expression may leave new objects behind -/
def PureIH (W : Int) (h₀ : Heap) (L : Addr) (m : Str → Option Value) (news : List (Addr × Obj)) (s : Shared) (v : Value) (s' : Shared) : Prop :=
  ∃ (u : Tok) (h' : Heap) (tk : Nat), v = .int W u ∧ s' = { s with heap := h', toks := tk } ∧ Fr h₀ L h' m ∧ News h₀ L h' news
theorem PureIH.intro {W W' : Int} {h₀ h' : Heap} {L : Addr} {m : Str → Option Value} {news : List (Addr × Obj)} {u : Tok} {tk : Nat} (F : Fr h₀ L h' m) (N : News h₀ L h' news) (e : W' = W) : PureIH W h₀ L m news s (.int W' u) { s with heap := h', toks := tk } := ⟨u, h', tk, by rw [e], rfl, F, N⟩
theorem joinIH (W : Int) {h₀ : Heap} {L : Addr} {m : Str → Option Value} {news : List (Addr × Obj)} (_ : Fr h₀ L s.heap m) (_ : News h₀ L s.heap news) (h1 : wpAny M A t (PureIH W h₀ L m news s) E s) (h2 : ∀ u h' tk, Fr h₀ L h' m → News h₀ L h' news → Q (.int W u) { s with heap := h', toks := tk }) : wpAny M A t Q E s :=
  wpAny_mono h1 (fun v s' ⟨u, h', tk, hv, e, F, N⟩ => by subst hv e; exact h2 u h' tk F N) fun _ _ e => e
end
end Mine
end
section
open PySem PySem.W PySem.Spec PySem.Calls PyProof.Rows PyProof.Rows.LCg PyProof.Rows.LCt PyProof.Rows.LCp
set_option maxHeartbeats 2000000
namespace Mine
section
variable {prog : Program} {w : World} {A : Around} {E : Value → Shared → Prop} {s : Shared} {h₀ : Heap} {L : Addr} {m : Str → Option Value} {env : Env}
/-- the walk stops here: a comprehension's source -/
def SrcX (prog : Program) (w : World) (A : Around) (h₀ : Heap) (L : Addr) (m : Str → Option Value) (env : Env) (elt : Expr) (x : Str) (scope : Scope) (cl : List (Str × Addr)) (Fin : Shared → List Value → List (Addr × Obj) → Prop) (xv : Value) (s₁ : Shared) : Prop :=
  CompSrc prog w A h₀ L m env elt x scope cl Fin xv s₁
def SrcY (prog : Program) (w : World) (A : Around) (h₀ : Heap) (L : Addr) (m : Str → Option Value) (env : Env) (elt : Expr) (x x₂ : Str) (scope : Scope) (cl : List (Str × Addr)) (Fin : Shared → List Value → List (Addr × Obj) → Prop) (xv : Value) (s₁ : Shared) : Prop :=
  SrcLP prog w A h₀ L m env elt x x₂ scope cl Fin xv s₁
theorem assign_X {elt iter : Expr} {x y : Str} {px py : Pos} {scope : Scope} {cl : List (Str × Addr)} {pos spos : Pos} {Q : Flow → Shared → Prop} (F₀ : Fr h₀ L s.heap m) (hLe : env.locals = L)
    (hsw : swapsWith (.ListComp elt [⟨.Name x px, iter, [], 0⟩] scope pos) (some (.Name y py)) spos.line env = pure true)
    (hclos : closureFor scope env = pure cl) (hcell : ∀ z ∈ scope.names, z.2 ≠ .cell) (hkind : scope.kind = .function)
    (hnames : ∀ z ∈ scope.names, z.2 = .local → scope.names.lookup z.1 = some .local) (hx : scope.names.lookup x = some .local)
    (hy : env.kindOf y = some .local) (hp : (env.scope.kind == .class || (env.scope.kind == .module && env.locals != env.globals)) = false)
    (h : wpAny (model prog w) A (eval iter env) (SrcX prog w A h₀ L m env elt x scope cl (fun s₂ => FinA h₀ L m s₂ y Q)) E s)
    (hs : ∀ x, foldedSetIterable iter env x = pure x := by intro _; rfl) :
    wpAny (model prog w) A (exec (.Assign [.Name y py] (.ListComp elt [⟨.Name x px, iter, [], 0⟩] scope pos) spos) env) Q E s :=
  Assign_ListComp_U F₀ hLe hsw hclos hcell hkind hnames hx hy hp h hs
theorem assign_Y {elt iter : Expr} {x x₂ y : Str} {px px₂ tp py : Pos} {tk} {scope : Scope} {cl : List (Str × Addr)} {pos spos : Pos} {Q : Flow → Shared → Prop} (F₀ : Fr h₀ L s.heap m) (hLe : env.locals = L)
    (hsw : swapsWith (.ListComp elt [⟨.Tuple [.Name x px, .Name x₂ px₂] tk tp, iter, [], 0⟩] scope pos) (some (.Name y py)) spos.line env = pure true)
    (hclos : closureFor scope env = pure cl) (hcell : ∀ z ∈ scope.names, z.2 ≠ .cell) (hkind : scope.kind = .function)
    (hnames : ∀ z ∈ scope.names, z.2 = .local → scope.names.lookup z.1 = some .local) (hx : scope.names.lookup x = some .local) (hx₂ : scope.names.lookup x₂ = some .local) (hxx : x ≠ x₂)
    (hy : env.kindOf y = some .local) (hp : (env.scope.kind == .class || (env.scope.kind == .module && env.locals != env.globals)) = false)
    (h : wpAny (model prog w) A (eval iter env) (SrcY prog w A h₀ L m env elt x x₂ scope cl (fun s₂ => FinA h₀ L m s₂ y Q)) E s)
    (hs : ∀ x, foldedSetIterable iter env x = pure x := by intro _; rfl) :
    wpAny (model prog w) A (exec (.Assign [.Name y py] (.ListComp elt [⟨.Tuple [.Name x px, .Name x₂ px₂] tk tp, iter, [], 0⟩] scope pos) spos) env) Q E s :=
  Assign_ListComp_P F₀ hLe hsw hclos hcell hkind hnames hx hx₂ hxx hy hp h hs
/-- a comprehension by an invariant over the values made so far and the ledger -/
theorem comp_inv {elt : Expr} {x : Str} {scope : Scope} {cl : List (Str × Addr)} {S : List (Addr × Obj) → Prop} {P : Nat → Value → Prop} {Fin : List Value → List (Addr × Obj) → Prop} {news : List (Addr × Obj)} (G : Nat → List Value → List (Addr × Obj) → Prop) (n : Nat) (h0 : G 0 [] news)
    (turn : ∀ i, i < n → ∀ ys nw, G i ys nw → ∀ v, P i v → ∀ I oI C oC D m₂ h tk (E' : Value → Shared → Prop), NsObj oC m₂ → m₂ x = some v → Fr h₀ L h m → News h₀ L h ((I, oI) :: (C, oC) :: (D, lst ys) :: nw) → Off3 I C D nw → ((@Ne Nat I C) ∧ (@Ne Nat I D) ∧ (@Ne Nat C D)) →
      wpAny (model prog w) A (eval elt (compEnvC scope cl C env)) (CompEnd h₀ L m { s with heap := h, toks := tk } I oI C oC D (lst ys) S (fun y nw' => G (i + 1) (ys ++ [y]) nw')) E' { s with heap := h, toks := tk })
    (fin : ∀ ys nw, G n ys nw → Fin ys nw) : CompRest prog w A h₀ L m env elt x scope cl s S P Fin n 0 [] news := by
  have key : ∀ (j i : Nat) (ys : List Value) (nw : List (Addr × Obj)), i + j = n → G i ys nw → CompRest prog w A h₀ L m env elt x scope cl s S P Fin j i ys nw := by
    intro j
    induction j with
    | zero =>
      intro i ys nw hi hG
      obtain rfl : i = n := by omega
      exact CompRest.zero (fin ys nw hG)
    | succ j ih =>
      intro i ys nw hi hG
      refine CompRest.succ ?_
      intro v I oI C oC D m₂ h tk E' hv hC hx F N off ne
      refine wpAny_mono (turn i (by omega) ys nw hG v hv I oI C oC D m₂ h tk E' hC hx F N off ne) (fun y s₂ hq => ?_) fun _ _ e => e
      obtain ⟨h', tk', nw', e, F', N', off', hS, hG'⟩ := hq
      exact ⟨h', tk', nw', e, F', N', off', hS, ih (i + 1) _ _ (by omega) hG'⟩
  exact key n 0 [] news (by omega) h0
theorem comp_invP {elt : Expr} {x x₂ : Str} {scope : Scope} {cl : List (Str × Addr)} {S : List (Addr × Obj) → Prop} {P : Nat → Value → Prop} {Fin : List Value → List (Addr × Obj) → Prop} {news : List (Addr × Obj)} (G : Nat → List Value → List (Addr × Obj) → Prop) (n : Nat) (h0 : G 0 [] news)
    (turn : ∀ i, i < n → ∀ ys nw, G i ys nw → ∀ v, P i v → ∃ (t : Addr) (ot : Obj) (v₁ v₂ : Value) (nt : Nat), v = .ref t ∧ (t, ot) ∈ nw ∧ ot.cls = .type "tuple" ∧ ot.data = .seq #[v₁, v₂] nt ∧
      ∀ I oI C oC D m₂ h tk (E' : Value → Shared → Prop), NsObj oC m₂ → m₂ x = some v₁ → m₂ x₂ = some v₂ → Fr h₀ L h m → News h₀ L h ((I, oI) :: (C, oC) :: (D, lst ys) :: nw) → Off3 I C D nw → ((@Ne Nat I C) ∧ (@Ne Nat I D) ∧ (@Ne Nat C D)) →
      wpAny (model prog w) A (eval elt (compEnvC scope cl C env)) (CompEnd h₀ L m { s with heap := h, toks := tk } I oI C oC D (lst ys) S (fun y nw' => G (i + 1) (ys ++ [y]) nw')) E' { s with heap := h, toks := tk })
    (fin : ∀ ys nw, G n ys nw → Fin ys nw) : CompRestP prog w A h₀ L m env elt x x₂ scope cl s S P Fin n 0 [] news := by
  have key : ∀ (j i : Nat) (ys : List Value) (nw : List (Addr × Obj)), i + j = n → G i ys nw → CompRestP prog w A h₀ L m env elt x x₂ scope cl s S P Fin j i ys nw := by
    intro j
    induction j with
    | zero =>
      intro i ys nw hi hG
      obtain rfl : i = n := by omega
      exact CompRestP.zero (fin ys nw hG)
    | succ j ih =>
      intro i ys nw hi hG
      refine CompRestP.succ ?_
      intro v hv
      obtain ⟨t, ot, v₁, v₂, nt, a1, a2, a3, a4, T⟩ := turn i (by omega) ys nw hG v hv
      refine ⟨t, ot, v₁, v₂, nt, a1, a2, a3, a4, ?_⟩
      intro I oI C oC D m₂ h tk E' hC hx hx₂ F N off ne
      refine wpAny_mono (T I oI C oC D m₂ h tk E' hC hx hx₂ F N off ne) (fun y s₂ hq => ?_) fun _ _ e => e
      obtain ⟨h', tk', nw', e, F', N', off', hS, hG'⟩ := hq
      exact ⟨h', tk', nw', e, F', N', off', hS, ih (i + 1) _ _ (by omega) hG'⟩
  exact key n 0 [] news (by omega) h0
end
/-- pairs of ints made so far, above a ledger that stays -/
def Digs (f g : Nat → Int) (base : List (Addr × Obj)) (i : Nat) (ys : List Value) (nw : List (Addr × Obj)) : Prop :=
  ys.length = i ∧ (∀ p ∈ base, p ∈ nw) ∧ ∀ j, j < i → ∃ (T : Addr) (t u : Tok) (n : Nat), ys[j]? = some (.ref T) ∧ (T, pairO (.int (f j) t) (.int (g j) u) n) ∈ nw
theorem Digs.zero {f g : Nat → Int} {base : List (Addr × Obj)} : Digs f g base 0 [] base := ⟨rfl, fun _ h => h, fun j hj => absurd hj (Nat.not_lt_zero _)⟩
theorem Digs.step {f g : Nat → Int} {base nw : List (Addr × Obj)} {i : Nat} {ys : List Value} {T : Addr} {t u : Tok} {n : Nat} (H : Digs f g base i ys nw) : Digs f g base (i + 1) (ys ++ [.ref T]) ((T, pairO (.int (f i) t) (.int (g i) u) n) :: nw) := by
  obtain ⟨a, b, c⟩ := H
  refine ⟨by simp [a], fun p hp => .tail _ (b p hp), fun j hj => ?_⟩
  by_cases e : j = i
  · subst e
    exact ⟨T, t, u, n, by rw [List.getElem?_append_right (by omega)]; simp [a], .head _⟩
  · obtain ⟨T', t', u', n', x, y⟩ := c j (by omega)
    exact ⟨T', t', u', n', by rw [List.getElem?_append_left (by omega)]; exact x, .tail _ y⟩
/-- ints made so far, the ledger as it was -/
def Ints (f : Nat → Int) (base : List (Addr × Obj)) (i : Nat) (ys : List Value) (nw : List (Addr × Obj)) : Prop := nw = base ∧ IntsAre ys ((List.range i).map f)
theorem Ints.zero {f : Nat → Int} {base : List (Addr × Obj)} : Ints f base 0 [] base := ⟨rfl, .nil⟩
theorem Ints.step {f : Nat → Int} {base nw : List (Addr × Obj)} {i : Nat} {ys : List Value} {t : Tok} {x : Int} (H : Ints f base i ys nw) (hx : x = f i) : Ints f base (i + 1) (ys ++ [.int x t]) nw := by
  obtain ⟨a, b⟩ := H
  refine ⟨a, ?_⟩
  rw [List.range_succ, List.map_append, hx]
  exact IntsAre.append b (.cons _ t .nil)
end Mine
end
section
open PySem PySem.W PySem.Spec PySem.Calls PyProof.Rows PyProof.Rows.LCg PyProof.Rows.LCt PyProof.Rows.LCp
set_option maxHeartbeats 2000000
namespace Mine
section
variable {prog : Program} {w : World} {A : Around} {E : Value → Shared → Prop} {s : Shared} {h₀ : Heap} {L : Addr} {m : Str → Option Value} {env : Env}
theorem off1_of {D : Addr} : ∀ {l : List (Addr × Obj)}, (∀ p ∈ l, p.1 ≠ D) → Off1 D l
  | [], _ => trivial
  | p :: _, h => ⟨h p List.mem_cons_self, off1_of fun q hq => h q (List.mem_cons_of_mem _ hq)⟩
/-- a turn hands back the int k, the heap as it was -/
def EEnd (k : Int) (h : Heap) (s₁ : Shared) (y : Value) (s' : Shared) : Prop := (∃ t, y = .int k t) ∧ ∃ tk, s' = { s₁ with heap := h, toks := tk }
theorem EEnd.intro {k k' : Int} {h : Heap} {s₁ : Shared} {t : Tok} {tk : Nat} (e : k' = k) : EEnd k h s₁ (.int k' t) { s₁ with heap := h, toks := tk } := ⟨⟨t, by rw [e]⟩, tk, rfl⟩
/-- one turn of a comprehension over enumerate -/
def TurnE (prog : Program) (w : World) (A : Around) (h₀ : Heap) (L : Addr) (m : Str → Option Value) (env : Env) (elt : Expr) (a b : Str) (scope : Scope) (cl : List (Str × Addr)) (news : List (Addr × Obj)) (s₁ : Shared) (k : Int) (i : Nat) (v : Value) : Prop :=
  ∀ (C : Addr) (oC : Obj) (m₂ : Str → Option Value) (h : Heap) (tk : Nat) (t : Tok) (E' : Value → Shared → Prop), NsObj oC m₂ → m₂ a = some (.int (i : Int) t) → m₂ b = some v → Fr h₀ L h m → News h₀ L h ((C, oC) :: news) →
    wpAny (model prog w) A (eval elt (compEnvC scope cl C env)) (EEnd k h s₁) E' { s₁ with heap := h, toks := tk }
def SrcZ (prog : Program) (w : World) (A : Around) (h₀ : Heap) (L : Addr) (m : Str → Option Value) (env : Env) (elt : Expr) (a b : Str) (scope : Scope) (cl : List (Str × Addr)) (Fin : Shared → List Value → List (Addr × Obj) → Prop) (xv : Value) (s₁ : Shared) : Prop :=
  ∃ (e it l : Addr) (lo : Obj) (items : Array Value) (n0 : Nat) (news : List (Addr × Obj)) (ks : Nat → Int), xv = .ref e ∧ A.handled = none ∧ e ≠ it ∧ IsEnum s₁.heap e it 0 .none ∧ s₁.heap.IsListIter it l 0 ∧ Fr h₀ L s₁.heap m ∧ News h₀ L s₁.heap news ∧
    (l, lo) ∈ news ∧ lo.cls = .type "list" ∧ lo.data = .seq items n0 ∧ items.size ≤ sizeLine ∧ L ≠ e ∧ L ≠ it ∧ h₀.get? e = none ∧ h₀.get? it = none ∧ (∀ p ∈ news, p.1 ≠ e ∧ p.1 ≠ it) ∧
    (∀ i v, items[i]? = some v → TurnE prog w A h₀ L m env elt a b scope cl news s₁ (ks i) i v) ∧ (∀ ys, IntsAre ys ((List.range items.size).map ks) → Fin s₁ ys news)
theorem block_E {elt iter : Expr} {a b : Str} {pa pb tp : Pos} {kk} {scope : Scope} {cl : List (Str × Addr)} {pos : Pos} {s₂ : Shared} {e it l : Addr} {lo : Obj} {items : Array Value} {n0 : Nat} {news : List (Addr × Obj)} {ks : Nat → Int} {RR : Value → Addr → Result → Shared → Prop}
    (hh : A.handled = none) (hei : e ≠ it) (hE : IsEnum s₂.heap e it 0 .none) (hI : s₂.heap.IsListIter it l 0) (F : Fr h₀ L s₂.heap m) (N : News h₀ L s₂.heap news) (hm : (l, lo) ∈ news) (hc : lo.cls = .type "list") (hd : lo.data = .seq items n0) (hsz : items.size ≤ sizeLine)
    (hLe : L ≠ e) (hLi : L ≠ it) (he₀ : h₀.get? e = none) (hi₀ : h₀.get? it = none) (off : ∀ p ∈ news, p.1 ≠ e ∧ p.1 ≠ it)
    (hcell : ∀ y ∈ scope.names, y.2 ≠ .cell) (hkind : scope.kind = .function) (hxa : scope.names.lookup a = some .local) (hxb : scope.names.lookup b = some .local) (hab : ¬ a = b)
    (turn : ∀ i v, items[i]? = some v → TurnE prog w A h₀ L m env elt a b scope cl news s₂ (ks i) i v)
    (hRR : ∀ D C h tk m' ys, IntsAre ys ((List.range items.size).map ks) → Fr h₀ L h m → News h₀ L h ((D, lst ys) :: news) → Off1 D news → h.Ns C m' → h₀.get? C = none → C ≠ L → C ≠ D → (∀ p ∈ news, p.1 ≠ C) → RR (.ref D) C (.ok .next) { s₂ with heap := h, toks := tk }) :
    wpAny (model prog w) A (newList []) (fun acc s₃ => wpAny (model prog w) A (newFunctionEnv scope env.globals cl [] env.qual none .none (some env)) (fun cenv s₄ =>
      codeAny (model prog w) A (.compStart (.ListComp elt [⟨.Tuple [.Name a pa, .Name b pb] kk tp, iter, [], 0⟩] scope pos) 0 (.ref e) acc { cenv with scope := relabel scope env }) (RR acc cenv.locals) s₄) E s₃) E s₂ := by
  refine wpAny_newObj_type (wpAny_newFunctionEnv hcell (by intro y hy; simp at hy) (fun h₁ hns₁ hsb₁ => ?_) hkind)
  dsimp only at hns₁ hsb₁ ⊢
  generalize hH2 : s₂.heap.push { cls := .type "list", dict := none, data := .seq ([] : List Value).toArray } = H2 at hns₁ hsb₁ ⊢
  have hC : H2.objs.size = s₂.heap.objs.size + 1 := by rw [← hH2, Heap.size_push]
  have hDC : s₂.heap.objs.size ≠ H2.objs.size := by rw [hC]; exact Nat.ne_of_lt (Nat.lt_succ_self _)
  have below : ∀ b, b < s₂.heap.objs.size → b ≠ H2.objs.size ∧ b ≠ s₂.heap.objs.size := fun b hb => ⟨by rw [hC]; exact Nat.ne_of_lt (Nat.lt_succ_of_lt hb), Nat.ne_of_lt hb⟩
  have old : ∀ b o, s₂.heap.get? b = some o → h₁.get? b = some o := fun b o x => hsb₁.extBut b o (below b (Heap.lt_size x)).1 (Heap.get?_push_of_some _ (hH2 ▸ Heap.get?_push_of_some _ x))
  have hacc : h₁.get? s₂.heap.objs.size = some (lst []) := hsb₁.extBut _ _ hDC (Heap.get?_push_of_some _ (hH2 ▸ Heap.get?_push_size _ rfl))
  have fresh₀ : ∀ a, s₂.heap.objs.size ≤ a → h₀.get? a = none := fun a ha => by
    cases x : h₀.get? a with
    | none => rfl
    | some o' => exact absurd (Heap.lt_size (F.keep a o' x)) (Nat.not_lt.mpr ha)
  have hD₀ : h₀.get? s₂.heap.objs.size = none := fresh₀ _ (Nat.le_refl _)
  have hC₀ : h₀.get? H2.objs.size = none := fresh₀ _ (by rw [hC]; exact Nat.le_succ _)
  have hLlt : L < s₂.heap.objs.size := F.ns.lt
  have hDL : s₂.heap.objs.size ≠ L := Ne.symm (below L hLlt).2
  have hCL : H2.objs.size ≠ L := Ne.symm (below L hLlt).1
  have helt : e < s₂.heap.objs.size := Heap.lt_size hE
  have hilt : it < s₂.heap.objs.size := by obtain ⟨_, x, _⟩ := hI; exact Heap.lt_size x
  have hllt : l < s₂.heap.objs.size := Heap.lt_size (N _ hm).1
  have hle := (off _ hm).1
  have hli := (off _ hm).2
  have offD : ∀ p ∈ news, p.1 ≠ s₂.heap.objs.size := fun p hp => (below _ (Heap.lt_size (N p hp).1)).2
  have offC : ∀ p ∈ news, p.1 ≠ H2.objs.size := fun p hp => (below _ (Heap.lt_size (N p hp).1)).1
  have W := WalksT.enumerate (prog := prog) (w := w) hh e it l hei hle hli items
  have lst0 : ∀ h : Heap, (∀ p ∈ news, h.get? p.1 = some p.2) → h.IsList l items := fun h x => ⟨lo, x _ hm, hc, n0, hd⟩
  have loop : ∀ s₃ : Shared, s₃ = { s₂ with heap := h₁, toks := s₂.toks + ([] : List (Str × Value)).length } →
      codeAny (model prog w) A (.compLoop (.ListComp elt [⟨.Tuple [.Name a pa, .Name b pb] kk tp, iter, [], 0⟩] scope pos) 0 (.ref e) (.ref s₂.heap.objs.size) (compEnvC scope cl H2.objs.size env))
        (RR (.ref s₂.heap.objs.size) H2.objs.size) s₃ := by
    rintro s₃ rfl
    refine kcp_loop
      (fun k s' => ∃ h' tk i ys m', s' = { s₂ with heap := h', toks := tk } ∧ i ≤ items.size ∧ k = items.size + 1 - i ∧ ys.length = i ∧ IntsAre ys ((List.range i).map ks) ∧ ((∃ old, IsEnum h' e it i old) ∧ h'.IsListIter it l i) ∧ Fr h₀ L h' m ∧ h'.Ns H2.objs.size m' ∧
        News h₀ L h' ((s₂.heap.objs.size, lst ys) :: news)) ?_ (items.size + 1)
      ⟨h₁, _, 0, [], _, rfl, Nat.zero_le _, rfl, rfl, .nil, ⟨⟨_, old _ _ hE⟩, hI.at fun o x => old _ o x⟩, F.keeps old, hns₁, fun p hp => ?_⟩
    · rintro k s' ⟨h', tk, i, ys, m', rfl, hi, rfl, hyl, hys, hst, F', hn', N'⟩
      have hl' := lst0 h' fun p hp => (N' p (List.mem_cons_of_mem _ hp)).1
      by_cases hlt : i < items.size
      · refine W.item i _ _ _ hlt ⟨hst.1, hst.2, hl'⟩ fun T vals h₂ tk₂ hPt _ hT hMid hk₂ => ?_
        obtain ⟨t, v, hv, rfl⟩ := hPt
        have hTw := W.apart _ _ _ hMid
        refine W.go _ _ _ i T _ _ _ hMid fun h₃ hst₃ hk₃ => ?_
        have hT3 : h₃.IsTuple T #[.int (i : Int) t, v] := by
          obtain ⟨o, ho, r⟩ := hT
          exact ⟨o, hk₃ T o hTw ho, r⟩
        have up₃ : ∀ c o, c ≠ e → c ≠ it → h'.get? c = some o → h₃.get? c = some o := fun c o h1 h2 x => hk₃ c o (by simp [h1, h2]) (hk₂ c o (by simp [h1, h2]) x)
        have hCe := (below e helt).1
        have hCi := (below it hilt).1
        have hDe := (below e helt).2
        have hDi := (below it hilt).2
        refine kcp_assign (env := compEnvC scope cl H2.objs.size env) hh hT3 (lookup_relabel_local hxa) (lookup_relabel_local hxb) (by simp [compEnvC, relabel, hkind]) (hn'.at' fun o x => up₃ _ o (Ne.symm hCe) (Ne.symm hCi) x) fun h₄ tk₄ hn₄ hs₄ => ?_
        have up : ∀ c o, c ≠ e → c ≠ it → c ≠ H2.objs.size → h'.get? c = some o → h₄.get? c = some o := fun c o h1 h2 h3 x => hs₄ c o h3 (up₃ c o h1 h2 x)
        obtain ⟨oC, heC, hoC⟩ := ns_obj hn₄
        have F₄ : Fr h₀ L h₄ m := ⟨F'.ns.at' fun o x => up _ o hLe hLi (Ne.symm hCL) x, fun c o x => up c o (fun q => by rw [q, he₀] at x; cases x) (fun q => by rw [q, hi₀] at x; cases x) (fun q => by rw [q, hC₀] at x; cases x) (F'.keep c o x), F'.above⟩
        have N₄ : News h₀ L h₄ ((H2.objs.size, oC) :: news) := fun q hq => by
          rcases List.mem_cons.mp hq with rfl | hq
          · exact ⟨heC, hCL, hC₀⟩
          · have z := N' q (List.mem_cons_of_mem _ hq)
            exact ⟨up _ _ (off q hq).1 (off q hq).2 (offC q hq) z.1, z.2⟩
        have zD : h₄.get? s₂.heap.objs.size = some (lst ys) := up _ _ (Ne.symm hDe) (Ne.symm hDi) hDC (N' _ List.mem_cons_self).1
        refine wpAny_mono (turn i v hv H2.objs.size oC _ h₄ _ t _ hoC (by simp [hab]) (by simp) F₄ N₄) (fun y s₅ h₅ => ?_) fun _ _ e => e
        obtain ⟨⟨ty, rfl⟩, tk₅, rfl⟩ := h₅
        refine append_at (hsz := by show ys.toArray.size ≤ sizeLine; rw [List.size_toArray, hyl]; exact Nat.le_trans hi hsz) zD fun h₆ hs₆ hD₆ => ?_
        refine ⟨items.size + 1 - (i + 1), by omega, h₆, tk₅, i + 1, ys ++ [.int (ks i) ty], _, rfl, hlt, rfl, by rw [List.length_append, List.length_singleton, hyl], ?_, ⟨?_, ?_⟩, F₄.change hs₆ hDL hD₀, (hoC.ns heC).sameBut hs₆ (Ne.symm hDC), fun q hq => ?_⟩
        · rw [List.range_succ, List.map_append]
          exact IntsAre.append hys (.cons _ ty .nil)
        · obtain ⟨⟨o1, hE3⟩, _⟩ := hst₃
          exact ⟨o1, by have := hs₆.extBut e _ hDe (hs₄ e _ hCe hE3); simpa using this⟩
        · exact hst₃.2.1.at fun o x => hs₆.extBut it o hDi (hs₄ it o hCi x)
        · rcases List.mem_cons.mp hq with rfl | hq
          · exact ⟨hD₆.trans (congrArg some (lst_snoc ys _)), hDL, hD₀⟩
          · have z := N₄ q (List.mem_cons_of_mem _ hq)
            exact ⟨hs₆.extBut _ _ (offD q hq) z.1, z.2⟩
      · obtain rfl : i = items.size := Nat.le_antisymm hi (Nat.not_lt.mp hlt)
        refine W.done _ _ _ ⟨hst.1, hst.2, hl'⟩ fun h₂ tk₂ hk₂ => ?_
        have up : ∀ c o, c ≠ e → c ≠ it → h'.get? c = some o → h₂.get? c = some o := fun c o h1 h2 x => hk₂ c o (by simp [h1, h2]) x
        refine hRR _ _ h₂ tk₂ _ ys hys ⟨F'.ns.at' fun o x => up _ o hLe hLi x, fun c o x => up c o (fun q => by rw [q, he₀] at x; cases x) (fun q => by rw [q, hi₀] at x; cases x) (F'.keep c o x), F'.above⟩ (fun q hq => ?_) ?_ (hn'.at' fun o x => up _ o (Ne.symm (below e helt).1) (Ne.symm (below it hilt).1) x) hC₀ hCL (Ne.symm hDC) offC
        · have z := N' q hq
          rcases List.mem_cons.mp hq with rfl | hq
          · exact ⟨up _ _ (Ne.symm (below e helt).2) (Ne.symm (below it hilt).2) z.1, z.2⟩
          · exact ⟨up _ _ (off q hq).1 (off q hq).2 z.1, z.2⟩
        · exact off1_of offD
    · rcases List.mem_cons.mp hp with rfl | hp
      · exact ⟨hacc, hDL, hD₀⟩
      · exact ⟨old _ _ (N p hp).1, (N p hp).2⟩
  exact codeAny_compStart_list (loop _ rfl) (W.self 0 _ _ _ ⟨⟨_, old _ _ hE⟩, hI.at fun o x => old _ o x, lst0 h₁ fun p hp => old _ _ (N p hp).1⟩ (loop _ rfl))
theorem ListComp_En {elt iter : Expr} {a b : Str} {pa pb tp : Pos} {kk} {scope : Scope} {cl : List (Str × Addr)} {pos : Pos} {Q : Value → Shared → Prop} (_F₀ : Fr h₀ L s.heap m)
    (hclos : closureFor scope env = pure cl) (hcell : ∀ y ∈ scope.names, y.2 ≠ .cell) (hkind : scope.kind = .function)
    (hnames : ∀ y ∈ scope.names, y.2 = .local → scope.names.lookup y.1 = some .local) (hxa : scope.names.lookup a = some .local) (hxb : scope.names.lookup b = some .local) (hab : ¬ a = b)
    (h : wpAny (model prog w) A (eval iter env) (SrcZ prog w A h₀ L m env elt a b scope cl (fun s₂ => FinE h₀ L m s₂ Q)) E s)
    (hs : ∀ x, foldedSetIterable iter env x = pure x := by intro _; rfl) :
    wpAny (model prog w) A (eval (.ListComp elt [⟨.Tuple [.Name a pa, .Name b pb] kk tp, iter, [], 0⟩] scope pos) env) Q E s := by
  rw [eval_ListComp]
  refine wpAny_comprehension_free (use := none) rfl hs hclos hkind hnames (wpAny_mono h (fun xv s₁ h₁ => ?_) fun _ _ e => e)
  obtain ⟨e, it, l, lo, items, n0, news, ks, rfl, hh, hei, hE, hI, F, N, hm, hc, hd, hsz, hLe, hLi, he₀, hi₀, off, turn, fin⟩ := h₁
  refine wpAny_pyIter_enum hE ?_
  refine block_E hh hei hE hI F N hm hc hd hsz hLe hLi he₀ hi₀ off hcell hkind hxa hxb hab turn ?_
  intro D C h tk m' ys hys F' N' o1 hn hC₀ hCL hCD offC
  refine ⟨m', hn, fun h'' hs'' => fin ys hys D h'' tk (F'.change hs'' hCL hC₀) (fun p hp => ?_) o1⟩
  refine ⟨hs''.extBut _ _ ?_ (N' p hp).1, (N' p hp).2⟩
  rcases List.mem_cons.mp hp with rfl | hp
  · exact Ne.symm hCD
  · exact offC p hp
theorem enum_Z {elt : Expr} {a b : Str} {scope : Scope} {cl : List (Str × Addr)} {Fin : Shared → List Value → List (Addr × Obj) → Prop} {l : Addr} {items : Array Value} {n0 : Nat} {news : List (Addr × Obj)} (ks : Nat → Int) (hh : A.handled = none) (F : Fr h₀ L s.heap m) (N : News h₀ L s.heap news)
    (hm : (l, ({ cls := .type "list", data := .seq items n0 } : Obj)) ∈ news) (hsz : items.size ≤ sizeLine)
    (turn : ∀ h' i v, items[i]? = some v → TurnE prog w A h₀ L m env elt a b scope cl news { s with heap := h' } (ks i) i v)
    (fin : ∀ h' ys, IntsAre ys ((List.range items.size).map ks) → Fin { s with heap := h' } ys news) :
    wpAny (model prog w) A (call (.type "enumerate") [.ref l]) (SrcZ prog w A h₀ L m env elt a b scope cl Fin) E s := by
  refine call_enumerate_list ⟨_, (N _ hm).1, rfl, n0, rfl⟩ fun h' hE hI hz hk => ?_
  have hLlt : L < s.heap.objs.size := F.ns.lt
  have fresh₀ : ∀ a, s.heap.objs.size ≤ a → h₀.get? a = none := fun a ha => by
    cases x : h₀.get? a with
    | none => rfl
    | some o' => exact absurd (Heap.lt_size (F.keep a o' x)) (Nat.not_lt.mpr ha)
  exact ⟨_, _, l, _, items, n0, news, ks, rfl, hh, Nat.succ_ne_self _, hE, hI, F.keeps hk, N.grown hk, hm, rfl, rfl, hsz, Nat.ne_of_lt (Nat.lt_succ_of_lt hLlt), Nat.ne_of_lt hLlt, fresh₀ _ (Nat.le_succ _), fresh₀ _ (Nat.le_refl _),
    fun p hp => ⟨Nat.ne_of_lt (Nat.lt_succ_of_lt (Heap.lt_size (N p hp).1)), Nat.ne_of_lt (Heap.lt_size (N p hp).1)⟩, fun i v hv => turn h' i v hv, fun ys hys => fin h' ys hys⟩
theorem enum_ZH {elt : Expr} {a b : Str} {scope : Scope} {cl : List (Str × Addr)} {Fin : Shared → List Value → List (Addr × Obj) → Prop} {l : Addr} {items : Array Value} {n0 : Nat} {news : List (Addr × Obj)} (ks : Nat → Int) (hh : A.handled = none) (F : Fr h₀ L s.heap m) (N : News h₀ L s.heap news)
    (hm : (l, ({ cls := .type "list", data := .seq items n0 } : Obj)) ∈ news) (hsz : items.size ≤ sizeLine)
    (turn : Hold (∀ h' i v, items[i]? = some v → TurnE prog w A h₀ L m env elt a b scope cl news { s with heap := h' } (ks i) i v))
    (fin : Hold (∀ h' ys, IntsAre ys ((List.range items.size).map ks) → Fin { s with heap := h' } ys news)) :
    wpAny (model prog w) A (call (.type "enumerate") [.ref l]) (SrcZ prog w A h₀ L m env elt a b scope cl Fin) E s := enum_Z ks hh F N hm hsz turn fin
end
end Mine
end
section
open PySem PySem.W PySem.Builtin PyProof.Rows
namespace Mine
/-- the bit that the walk reads at place i -/
abbrev dg (a : Int) (i : Nat) : Int := (a.fdiv (2 ^ (0 + (i : Int)).toNat)).fmod 2
theorem dg_bt (a : Int) (i : Nat) : dg a i = if bt i a then 1 else 0 := by
  unfold dg
  have e : (0 + (i : Int)).toNat = i := by omega
  rw [e, Int.fdiv_eq_ediv_of_nonneg _ (Int.le_of_lt (Int.pow_pos (by decide))), Int.fmod_eq_emod_of_nonneg _ (by decide)]
  exact bt_cases i a
theorem dg_lo (a : Int) (i : Nat) : 0 ≤ dg a i := fm_lo _
theorem dg_hi (a : Int) (i : Nat) : dg a i ≤ 1 := fm_hi _
def K4 (X Y : Int) : Int := if (X + Y == 2) = true then 1 else 0
def K5 (X Y : Int) : Int := if (X != Y) = true then 1 else 0
def K6 (X Y : Int) : Int := if decide (0 < X + Y) = true then 1 else 0
theorem K4_01 (X Y : Int) : 0 ≤ K4 X Y ∧ K4 X Y ≤ 1 := by unfold K4; split <;> decide
theorem K5_01 (X Y : Int) : 0 ≤ K5 X Y ∧ K5 X Y ≤ 1 := by unfold K5; split <;> decide
theorem K6_01 (X Y : Int) : 0 ≤ K6 X Y ∧ K6 X Y ≤ 1 := by unfold K6; split <;> decide
theorem sum_bits (b : Nat → Bool) : ((List.range 8).map fun i => (if b i then (1 : Int) else 0) * 2 ^ ((i : Int)).toNat).sum = fl (b 7) (b 6) (b 5) (b 4) (b 3) (b 2) (b 1) (b 0) := by
  have e : List.range 8 = [0, 1, 2, 3, 4, 5, 6, 7] := by decide
  rw [e]
  simp only [List.map_cons, List.map_nil]
  generalize b 0 = b0, b 1 = b1, b 2 = b2, b 3 = b3, b 4 = b4, b 5 = b5, b 6 = b6, b 7 = b7
  revert b0 b1 b2 b3 b4 b5 b6 b7
  decide +kernel
theorem sum_op {kk : Int → Int → Int} {β : Bool → Bool → Bool} (hk : ∀ p q : Bool, kk (if p then 1 else 0) (if q then 1 else 0) = if β p q then 1 else 0) {a b c : Int} (h0 : 0 ≤ c) (h1 : c < 256) (hb : ∀ k, bt k c = β (bt k a) (bt k b)) :
    ((List.range 8).map fun i => kk (dg a i) (dg b i) * 2 ^ ((i : Int)).toNat).sum = c := by
  have e : (fun i : Nat => kk (dg a i) (dg b i) * 2 ^ ((i : Int)).toNat) = fun i : Nat => (if bt i c then (1 : Int) else 0) * 2 ^ ((i : Int)).toNat := by
    funext i
    rw [dg_bt, dg_bt, hk, hb]
  rw [e, sum_bits (fun i => bt i c), ← byte_fl c h0 h1]
theorem sum4 {a b : Int} (hb0 : 0 ≤ b) (hb1 : b < 256) : ((List.range 8).map fun i => K4 (dg a i) (dg b i) * 2 ^ ((i : Int)).toNat).sum = bitAnd a b :=
  sum_op (β := fun p q => p && q) (by decide) (and_byte hb0 hb1).1 (and_byte hb0 hb1).2 fun k => and_bit k a b
theorem sum5 {a b : Int} (ha0 : 0 ≤ a) (ha1 : a < 256) (hb0 : 0 ≤ b) (hb1 : b < 256) : ((List.range 8).map fun i => K5 (dg a i) (dg b i) * 2 ^ ((i : Int)).toNat).sum = bitXor a b :=
  sum_op (β := fun p q => p != q) (by decide) (xor_byte ha0 ha1 hb0 hb1).1 (xor_byte ha0 ha1 hb0 hb1).2 fun k => xor_bit k a b
theorem sum6 {a b : Int} (ha0 : 0 ≤ a) (ha1 : a < 256) (hb0 : 0 ≤ b) (hb1 : b < 256) : ((List.range 8).map fun i => K6 (dg a i) (dg b i) * 2 ^ ((i : Int)).toNat).sum = bitOr a b :=
  sum_op (β := fun p q => p || q) (by decide) (or_byte ha0 ha1 hb0 hb1).1 (or_byte ha0 ha1 hb0 hb1).2 fun k => or_bit k a b
theorem fm2 (f : Int) : f.fmod 2 = f % 2 := Int.fmod_eq_emod_of_nonneg _ (by decide)
def KL (n X Y : Int) : Int := [K4 X Y, K5 X Y, K6 X Y].getD (n - 4).toNat 0
theorem KL_4 (X Y : Int) : KL 4 X Y = K4 X Y := rfl
theorem KL_5 (X Y : Int) : KL 5 X Y = K5 X Y := rfl
theorem KL_6 (X Y : Int) : KL 6 X Y = K6 X Y := rfl
theorem n456 {n : Int} (h0 : 4 ≤ n) (h1 : n ≤ 6) : n = 4 ∨ n = 5 ∨ n = 6 := by omega
theorem KL_01 {n : Int} (h0 : 4 ≤ n) (h1 : n ≤ 6) (X Y : Int) : 0 ≤ KL n X Y ∧ KL n X Y ≤ 1 := by
  rcases n456 h0 h1 with rfl | rfl | rfl
  · exact K4_01 X Y
  · exact K5_01 X Y
  · exact K6_01 X Y
theorem sumL {n a b f : Int} (h0 : 4 ≤ n) (h1 : n ≤ 6) (ha0 : 0 ≤ a) (ha1 : a < 256) (hb0 : 0 ≤ b) (hb1 : b < 256) : ((List.range 8).map fun i => KL n (dg a i) (dg b i) * 2 ^ ((i : Int)).toNat).sum = ordR n a b f := by
  rcases n456 h0 h1 with rfl | rfl | rfl
  · exact sum4 hb0 hb1
  · exact sum5 ha0 ha1 hb0 hb1
  · exact sum6 ha0 ha1 hb0 hb1
theorem ordL_byte {n a b f : Int} (h0 : 4 ≤ n) (h1 : n ≤ 6) (ha0 : 0 ≤ a) (ha1 : a < 256) (hb0 : 0 ≤ b) (hb1 : b < 256) : 0 ≤ ordR n a b f ∧ ordR n a b f < 256 := by
  rcases n456 h0 h1 with rfl | rfl | rfl
  · exact and_byte hb0 hb1
  · exact xor_byte ha0 ha1 hb0 hb1
  · exact or_byte ha0 ha1 hb0 hb1
theorem ordL_f {n a b f : Int} (h0 : 4 ≤ n) (h1 : n ≤ 6) : lgF (n == 4) (ordR n a b f) = ordF n a b f := by
  rcases n456 h0 h1 with rfl | rfl | rfl <;> rfl
def oW (n : Int) : Int := if n < 2 then 1 else -1
def oC (n f : Int) : Int := if n = 1 ∨ n = 3 then f.fmod 2 else 0
theorem oW_lo (n : Int) : -1 ≤ oW n := by unfold oW; split <;> decide
theorem oW_hi (n : Int) : oW n ≤ 1 := by unfold oW; split <;> decide
theorem n0123 {n : Int} (h0 : 0 ≤ n) (h1 : n < 8) (h4 : n < 4 ∨ n = 7) (h7 : n ≠ 7) : n = 0 ∨ n = 1 ∨ n = 2 ∨ n = 3 := by omega
theorem ordS_r {n a b f : Int} (h0 : 0 ≤ n) (h1 : n < 8) (h4 : n < 4 ∨ n = 7) (h7 : n ≠ 7) : aR 256 (oW n) a b (oC n f) = ordR n a b f := by
  rcases n0123 h0 h1 h4 h7 with rfl | rfl | rfl | rfl <;> simp [oW, oC, ordR, fm2]
theorem ordS_f {n a b f : Int} (h0 : 0 ≤ n) (h1 : n < 8) (h4 : n < 4 ∨ n = 7) (h7 : n ≠ 7) : fl (decide (127 < aR 256 (oW n) a b (oC n f))) (decide (aR 256 (oW n) a b (oC n f) = 0)) (decide (aR 256 (oW n) a b (oC n f) / 32 % 2 = 1)) (aH 16 (oW n) a b (oC n f)) (decide (aR 256 (oW n) a b (oC n f) / 8 % 2 = 1)) (aV 256 (oW n) a b (oC n f)) (decide (1 < n)) (aC 256 (oW n) a b (oC n f)) = ordF n a b f := by
  rcases n0123 h0 h1 h4 h7 with rfl | rfl | rfl | rfl <;> simp [oW, oC, ordF, fm2, oF]
theorem ordS7_f {n a b f : Int} (h : n = 7) : fl (decide (127 < aR 256 (oW n) a b (oC n f))) (decide (aR 256 (oW n) a b (oC n f) = 0)) ((b.fdiv 32).fmod 2 == 1) (aH 16 (oW n) a b (oC n f)) ((b.fdiv 8).fmod 2 == 1) (aV 256 (oW n) a b (oC n f)) (decide (1 < n)) (aC 256 (oW n) a b (oC n f)) = ordF n a b f := by
  subst h
  rw [bit_eq b (by decide), bit_eq b (by decide)]
  rfl
theorem ordS7_r {n a b f : Int} (h : n = 7) : a = ordR n a b f := by subst h; rfl
theorem any456_f {n : Int} (h : n < 4 ∨ n = 7) : ([4, 5, 6].any fun x : Int => x == n) = false := by
  simp; omega
theorem any456_t {n : Int} (h0 : 4 ≤ n) (h1 : n ≤ 6) : ([4, 5, 6].any fun x : Int => x == n) = true := by
  simp; omega
theorem any13 {n : Int} : ([1, 3].any fun x : Int => x == n) = decide (n = 1 ∨ n = 3) := by
  simp only [List.any_cons, List.any_nil, Bool.or_false]
  by_cases h1 : n = 1 <;> by_cases h3 : n = 3 <;> simp [h1, h3] <;> omega
theorem oC_t {n f : Int} (h : n = 1 ∨ n = 3) : f.fmod 2 = oC n f := (if_pos h).symm
theorem oC_f {n f : Int} (h : ¬ (n = 1 ∨ n = 3)) : 0 = oC n f := (if_neg h).symm
end Mine
end
section
open PySem PySem.W PySem.Spec PySem.Calls PyProof.Rows PyProof.Rows.LCg PyProof.Rows.LCt
namespace Mine
section
variable {prog : Program} {w : World} {A : Around} {E : Value → Shared → Prop} {s : Shared} {env : Env} {h₀ : Heap} {x : Str} {body : List Stmt} {Q : Flow → Shared → Prop}
/-- a loop over a range by an invariant over the frame's map and the ledger -/
theorem range_inv {I : Addr} {a : Int} {n : Nat} {m₀ : Str → Option Value} {news : List (Addr × Obj)} (G : Nat → (Str → Option Value) → List (Addr × Obj) → Prop) (h0 : G 0 m₀ news)
    (turn : ∀ i, i < n → ∀ m nw, G i m nw → ∀ t h tk, Fr h₀ env.locals h (fun y => if y = x then some (.int (a + (i : Int)) t) else m y) →
      News h₀ env.locals h ((I, itR (a + ((i + 1 : Nat) : Int)) ((n : Int) - ((i + 1 : Nat) : Int))) :: nw) →
      wpAny (model prog w) A (execs body env) (UnrPost h₀ env.locals { s with heap := h, toks := tk } I (itR (a + ((i + 1 : Nat) : Int)) ((n : Int) - ((i + 1 : Nat) : Int))) (G (i + 1)) Q) E { s with heap := h, toks := tk })
    (done : ∀ m nw, G n m nw → ∀ h tk, Fr h₀ env.locals h m → News h₀ env.locals h nw → Q .next { s with heap := h, toks := tk }) :
    RangeRest prog w A E h₀ env x body Q s I a n n 0 m₀ news := by
  have key : ∀ (j i : Nat) (m : Str → Option Value) (nw : List (Addr × Obj)), i + j = n → G i m nw → RangeRest prog w A E h₀ env x body Q s I a n j i m nw := by
    intro j
    induction j with
    | zero =>
      intro i m nw hi hG
      obtain rfl : i = n := by omega
      exact RangeRest.zero (done m nw hG)
    | succ j ih =>
      intro i m nw hi hG
      refine RangeRest.succ fun t h tk F N => wpAny_mono (turn i (by omega) m nw hG t h tk F N) (fun fl s₂ hq => ?_) fun _ _ e => e
      have up : UnrEnd h₀ env.locals { s with heap := h, toks := tk } I (itR (a + ((i + 1 : Nat) : Int)) ((n : Int) - ((i + 1 : Nat) : Int))) (G (i + 1)) s₂ →
          UnrEnd h₀ env.locals { s with heap := h, toks := tk } I (itR (a + ((i + 1 : Nat) : Int)) ((n : Int) - ((i + 1 : Nat) : Int))) (RangeRest prog w A E h₀ env x body Q s I a n j (i + 1)) s₂ := by
        rintro ⟨h', tk', m', nw', e, F', N', off, hG'⟩
        exact ⟨h', tk', m', nw', e, F', N', off, ih (i + 1) m' nw' (by omega) hG'⟩
      cases fl with
      | ret v => exact hq
      | brk => exact hq
      | next => exact up hq
      | cont => exact up hq
  exact key n 0 m₀ news (by omega) h0
end
/-- the inner loop leaves all as it was, but for its own name -/
def GI (x : Str) (B : List (Addr × Obj)) (m₀ : Str → Option Value) (_ : Nat) (m : Str → Option Value) (nw : List (Addr × Obj)) : Prop := nw = B ∧ ∃ u : Option Value, m = fun z => if z = x then u else m₀ z
theorem GI.zero {x : Str} {B : List (Addr × Obj)} {m₀ : Str → Option Value} : GI x B m₀ 0 m₀ B := ⟨rfl, m₀ x, by funext z; by_cases h : z = x <;> simp [h]⟩
theorem GI.step {x : Str} {B nw : List (Addr × Obj)} {m₀ m : Str → Option Value} {i : Nat} {v : Value} (H : GI x B m₀ i m nw) : GI x B m₀ (i + 1) (fun y => if y = x then some v else m y) nw := by
  obtain ⟨a, u, rfl⟩ := H
  exact ⟨a, some v, by funext z; by_cases h : z = x <;> simp [h]⟩
/-- what a turn of the law leaves -/
def GO (d n l2 c1 c2 c3 : Addr) (o4 : Obj) (ys : List Value) (_ : Nat) (m : Str → Option Value) (nw : List (Addr × Obj)) : Prop :=
  ∃ (cn : Nat) (k sd : Int) (tk ts : Tok) (c : Nat) (o1 o2 o3 : Obj) (v1 v2 v3 : Option Value) (u : Str → Option Value), 0 ≤ k ∧ k ≤ (ys.length : Int) ∧ 0 ≤ sd ∧ sd < 2147483647 ∧ o1.data = .cell v1 ∧ o2.data = .cell v2 ∧ o3.data = .cell v3 ∧
    m = (fun z => if z = Str.ofString "deal" then some (.ref d) else u z) ∧ nw = [(d, dealO n k sd tk ts c), (n, numO ys cn), (l2, o4), (c1, o1), (c2, o2), (c3, o3)]
theorem m_deal {x : Str} {m : Str → Option Value} {v : Value} (h : m x = some v) : m = fun z => if z = x then some v else m z := by
  funext z
  by_cases e : z = x
  · subst e; simp [h]
  · simp [e]
theorem GO.mk {d n l2 c1 c2 c3 : Addr} {o4 : Obj} {ys : List Value} {cn i : Nat} {m : Str → Option Value} {nw : List (Addr × Obj)} {k sd : Int} {tk ts : Tok} {c : Nat} {o1 o2 o3 : Obj} {v1 v2 v3 : Option Value}
    (e : nw = [(d, dealO n k sd tk ts c), (n, numO ys cn), (l2, o4), (c1, o1), (c2, o2), (c3, o3)]) (hm : m (Str.ofString "deal") = some (.ref d)) (h1 : o1.data = .cell v1) (h2 : o2.data = .cell v2) (h3 : o3.data = .cell v3) (hk0 : 0 ≤ k) (hk1 : k ≤ (ys.length : Int)) (hs0 : 0 ≤ sd) (hs1 : sd < 2147483647) :
    GO d n l2 c1 c2 c3 o4 ys i m nw := ⟨cn, k, sd, tk, ts, c, o1, o2, o3, v1, v2, v3, m, hk0, hk1, hs0, hs1, h1, h2, h3, m_deal hm, e⟩
theorem ListComp_X {prog : Program} {w : World} {A : Around} {E : Value → Shared → Prop} {s : Shared} {h₀ : Heap} {L : Addr} {m : Str → Option Value} {env : Env} {elt iter : Expr} {x : Str} {px : Pos} {scope : Scope} {cl : List (Str × Addr)} {pos : Pos} {Q : Value → Shared → Prop} (F₀ : Fr h₀ L s.heap m)
    (hclos : closureFor scope env = pure cl) (hcell : ∀ y ∈ scope.names, y.2 ≠ .cell) (hkind : scope.kind = .function)
    (hnames : ∀ y ∈ scope.names, y.2 = .local → scope.names.lookup y.1 = some .local) (hx : scope.names.lookup x = some .local)
    (h : wpAny (model prog w) A (eval iter env) (SrcX prog w A h₀ L m env elt x scope cl (fun s₂ => FinE h₀ L m s₂ Q)) E s)
    (hs : ∀ x, foldedSetIterable iter env x = pure x := by intro _; rfl) :
    wpAny (model prog w) A (eval (.ListComp elt [⟨.Name x px, iter, [], 0⟩] scope pos) env) Q E s := ListComp_U F₀ hclos hcell hkind hnames hx h hs
theorem ne_gt {a b : Nat} {o : Obj} {r : List (Addr × Obj)} (h : AllLt a r) (hm : ((b : Addr), o) ∈ r) : @Ne Nat a b := Nat.ne_of_gt (allLt_mem h _ hm)
theorem ne_lt {a b : Nat} {o : Obj} {r : List (Addr × Obj)} (h : AllLt b r) (hm : ((a : Addr), o) ∈ r) : @Ne Nat a b := Nat.ne_of_lt (allLt_mem h _ hm)
theorem off_of {I : Addr} {nw : List (Addr × Obj)} (h : AllLt I nw) : ∀ p ∈ nw, p.1 ≠ I := fun p hp => Nat.ne_of_lt (allLt_mem h p hp)
theorem seed_bnd (l : List Int) : ∀ a : Int, 0 ≤ a → a < 2147483647 → 0 ≤ List.foldl (fun a' n' => (a' * 48271 + n' + 7).fmod 2147483647) a l ∧ List.foldl (fun a' n' => (a' * 48271 + n' + 7).fmod 2147483647) a l < 2147483647 := by
  induction l with
  | nil => intro a h0 h1; exact ⟨h0, h1⟩
  | cons x r ih => intro a _ _; exact ih _ (Int.fmod_nonneg_of_pos _ (by decide)) (Int.fmod_lt_of_pos _ (by decide))
theorem seed_lo (l : List Int) : 0 ≤ List.foldl (fun a' n' => (a' * 48271 + n' + 7).fmod 2147483647) 3 l := (seed_bnd l 3 (by decide) (by decide)).1
theorem seed_hi (l : List Int) : List.foldl (fun a' n' => (a' * 48271 + n' + 7).fmod 2147483647) 3 l < 2147483647 := (seed_bnd l 3 (by decide) (by decide)).2
theorem len32 (f : Int → Int) (l : List Int) : (List.map f (List.take 32 l)).length ≤ 32 := by
  rw [List.length_map, List.length_take]; omega
end Mine
end
section
open PySem PySem.W PySem.Spec PySem.Calls PyProof.Rows
namespace Mine
set_option maxRecDepth 100000 in
theorem said : OpenLaw.wellSaid PySem.Challenge.rw_nz0560_01 = true := by kernel_rfl
abbrev lv : List (Str × WData) := [(PySem.Str.ofString "KEPT", WData.int 196)]
set_option maxRecDepth 100000 in
theorem left : LeftO PySem.Challenge.rw_nz0560_01.row.prog view [PySem.Str.ofString "KEPT"] (fun s => xlAt view lv s && recOk (RowW.records PySem.Challenge.rw_nz0560_01.row.toRowW) s) (Hook.obs (kHook KF asF hks)) (Hook.val (kHook KF asF hks)) 2240 := fun w => by kernel_rfl
end Mine
end
section
open PySem PySem.W PySem.Spec PySem.Calls PyProof.Rows PyProof.Rows.LCg PyProof.Rows.LCt
namespace Mine
local macro_rules | `(tactic| is_list) => `(tactic| exact News.isList (by k_asm) (by k_mem))
local macro_rules | `(tactic| k_mem) => `(tactic| assumption)
local macro_rules | `(tactic| k_all) => `(tactic| (refine' allLt_ne ?hA ?hB; (case hA => assumption); (case hB => omega)))
local macro_rules | `(tactic| k_all) => `(tactic| assumption)
local macro_rules | `(tactic| ktr_rel) => `(tactic| first | assumption | omega | decide | exact and255_byte.1 | exact and255_byte.2 | exact (and_byte (by assumption) (by assumption)).1 | exact (and_byte (by assumption) (by assumption)).2 | exact (or_byte (by assumption) (by assumption) (by assumption) (by assumption)).1 | exact (or_byte (by assumption) (by assumption) (by assumption) (by assumption)).2 | exact (xor_byte (by assumption) (by assumption) (by assumption) (by assumption)).1 | exact (xor_byte (by assumption) (by assumption) (by assumption) (by assumption)).2 | exact and65535_word.1 | exact and65535_word.2 | exact and1_lo _ | exact and1_hi _ | exact mod2_lo _ | exact mod2_hi _ | exact aR_lo .. | exact aR_hi .. | exact fm_lo _ | exact fm_hi _)
local macro_rules | `(tactic| kst_p1) => `(tactic| ((all_goals first | ((with_reducible show Below _ _ _ _); k_asm) | ((with_reducible show Fr _ _ _ _); k_asm) | ((with_reducible show Frag.In _ _); k_asm) | ((with_reducible show News _ _ _ _); k_asm) | ((with_reducible show Top _ _ _ _ _ _); k_asm) | ((with_reducible show _ = ScopeKind.function); first | exact rfl | assumption) | ((with_reducible show _ < recursionLimit); ktr_room) | ((with_reducible show _ < cLine); ktr_units) | skip); (all_goals first | ((with_reducible show _ ≤ _); ktr_rel) | ((with_reducible show _ < _); ktr_rel) | ((with_reducible show _ ∈ _); k_mem) | ((with_reducible show (_ : Int) = _); omega) | skip)))
set_option maxRecDepth 100000 in
set_option maxHeartbeats 8000000 in
theorem c_parity (w : World) (p : Program) (loose : List Str) (mean : ExcName → Option Value) (mg mb : Str → Option Value) (news : List (Addr × Obj)) (v : Int) (t : Tok) (h0 : 0 ≤ v) (h1 : v < 256) :
   Does PySem.Challenge.rw_nz0560_01.row.prog w (KF w.params) p loose mean mg mb 21 1 8 news [.int v t] (RetI news (if par v then 4 else 0)) := by
  w_on
  (have : PySem.Challenge.rw_nz0560_01 = PySem.Challenge.rw_nz0560_01 ∧ KF = KF := by (k_fill; exact ⟨rfl, rfl⟩)); clear this
  unfold Does
  intro dp un gd cn cs ad ccd cl outer A₀ base h₀ L m s Q E B F X N T hk hd hu hret
  refine wpAny_call ?_
  k_dflt cell_enter
  k_steps
  all_goals first
    | exact hret _ _ _ _ (by k_asm) (by k_asm) ⟨⟨_, by rw [← par_0 h0 h1 (by assumption)]⟩, rfl⟩
    | exact hret _ _ _ _ (by k_asm) (by k_asm) ⟨⟨_, by rw [← par_1 h0 h1 (by assumption)]⟩, rfl⟩
local macro_rules | `(tactic| walk_at "call ref") => `(tactic| (k_here; (with_reducible show wpAny _ _ (call (Value.ref 21) _) _ _ _); k_dflt (refine' retI_use (c_parity _ _ _ _ _ _ _ _ _ ?_ ?_) ?_ ?_ ?_ ?_ ?_ ?_ ?_ ?_ ?_; kst_p1; intro t9 h9 tk9 F9 N9; (try dsimp only); (try k_fold))))
set_option maxRecDepth 100000 in
set_option maxHeartbeats 8000000 in
theorem c_szyx (w : World) (p : Program) (loose : List Str) (mean : ExcName → Option Value) (mg mb : Str → Option Value) (news : List (Addr × Obj)) (v : Int) (t : Tok) (h0 : 0 ≤ v) (h1 : v < 256) :
   Does PySem.Challenge.rw_nz0560_01.row.prog w (KF w.params) p loose mean mg mb 28 1 8 news [.int v t] (RetI news (szF v)) := by
  w_on
  (have : PySem.Challenge.rw_nz0560_01 = PySem.Challenge.rw_nz0560_01 ∧ KF = KF := by (k_fill; exact ⟨rfl, rfl⟩)); clear this
  unfold Does
  intro dp un gd cn cs ad ccd cl outer A₀ base h₀ L m s Q E B F X N T hk hd hu hret
  refine wpAny_call ?_
  k_dflt cell_enter
  k_steps
  all_goals first
    | exact hret _ _ _ _ (by k_asm) (by k_asm) ⟨⟨_, by rw [sz_0 (by assumption)]⟩, rfl⟩
    | exact hret _ _ _ _ (by k_asm) (by k_asm) ⟨⟨_, by rw [sz_1 h0 h1 (by assumption)]⟩, rfl⟩
local macro_rules | `(tactic| walk_at "call ref") => `(tactic| (k_here; (with_reducible show wpAny _ _ (call (Value.ref 28) _) _ _ _); k_dflt (refine' retI_use (c_szyx _ _ _ _ _ _ _ _ _ ?_ ?_) ?_ ?_ ?_ ?_ ?_ ?_ ?_ ?_ ?_; kst_p1; intro t9 h9 tk9 F9 N9; (try dsimp only); (try k_fold))))
set_option maxRecDepth 100000 in
set_option maxHeartbeats 8000000 in
theorem c_add8 (w : World) (p : Program) (loose : List Str) (mean : ExcName → Option Value) (mg mb : Str → Option Value) (news : List (Addr × Obj)) (a b c : Int) (ta tb tc : Tok) (ha0 : 0 ≤ a) (ha1 : a < 256) (hb0 : 0 ≤ b) (hb1 : b < 256) (hc0 : 0 ≤ c) (hc1 : c ≤ 1) :
   Does PySem.Challenge.rw_nz0560_01.row.prog w (KF w.params) p loose mean mg mb 35 2 24 news [.int a ta, .int b tb, .int c tc] (Tup2 news (aR 256 1 a b c) (oF 1 a b c)) := by
  w_on
  (have : PySem.Challenge.rw_nz0560_01 = PySem.Challenge.rw_nz0560_01 ∧ KF = KF := by (k_fill; exact ⟨rfl, rfl⟩)); clear this
  unfold Does
  intro dp un gd cn cs ad ccd cl outer A₀ base h₀ L m s Q E B F X N T hk hd hu hret
  refine wpAny_call ?_
  k_dflt cell_enter
  k_steps
  all_goals (refine hret _ _ _ _ (by k_asm) (by k_asm) (tup2_of (allLt_of (by assumption)) (add8_r ha0 ha1 hb0 hb1 hc0 hc1) ?_))
  all_goals first
    | with_reducible exact add8_0 ha0 ha1 hb0 hb1 hc0 hc1 (by assumption)
    | with_reducible exact add8_1 ha0 ha1 hb0 hb1 hc0 hc1 (by assumption)
local macro_rules | `(tactic| walk_at "call ref") => `(tactic| (k_here; (with_reducible show wpAny _ _ (call (Value.ref 35) _) _ _ _); k_dflt (refine' tup2_use (c_add8 _ _ _ _ _ _ _ _ _ _ _ _ _ ?_ ?_ ?_ ?_ ?_ ?_) ?_ ?_ ?_ ?_ ?_ ?_ ?_ ?_ ?_; kst_p1; intro D9 t9 u9 c9 h9 tk9 F9 N9 l9; (try simp only [AllLt, and_true] at l9); (try dsimp only); (try k_fold))))
set_option maxRecDepth 100000 in
set_option maxHeartbeats 8000000 in
theorem c_sub8 (w : World) (p : Program) (loose : List Str) (mean : ExcName → Option Value) (mg mb : Str → Option Value) (news : List (Addr × Obj)) (a b c : Int) (ta tb tc : Tok) (ha0 : 0 ≤ a) (ha1 : a < 256) (hb0 : 0 ≤ b) (hb1 : b < 256) (hc0 : 0 ≤ c) (hc1 : c ≤ 1) :
   Does PySem.Challenge.rw_nz0560_01.row.prog w (KF w.params) p loose mean mg mb 42 2 24 news [.int a ta, .int b tb, .int c tc] (Tup2 news (aR 256 (-1) a b c) (oF (-1) a b c)) := by
  w_on
  (have : PySem.Challenge.rw_nz0560_01 = PySem.Challenge.rw_nz0560_01 ∧ KF = KF := by (k_fill; exact ⟨rfl, rfl⟩)); clear this
  unfold Does
  intro dp un gd cn cs ad ccd cl outer A₀ base h₀ L m s Q E B F X N T hk hd hu hret
  refine wpAny_call ?_
  k_dflt cell_enter
  k_steps
  all_goals (refine hret _ _ _ _ (by k_asm) (by k_asm) (tup2_of (allLt_of (by assumption)) (sub8_r ha0 ha1 hb0 hb1 hc0 hc1) ?_))
  all_goals first
    | with_reducible exact sub8_tt ha0 ha1 hb0 hb1 hc0 hc1 (by assumption) (by assumption)
    | with_reducible exact sub8_tf ha0 ha1 hb0 hb1 hc0 hc1 (by assumption) (by assumption)
    | with_reducible exact sub8_ft ha0 ha1 hb0 hb1 hc0 hc1 (by assumption) (by assumption)
    | with_reducible exact sub8_ff ha0 ha1 hb0 hb1 hc0 hc1 (by assumption) (by assumption)
local macro_rules | `(tactic| walk_at "call ref") => `(tactic| (k_here; (with_reducible show wpAny _ _ (call (Value.ref 42) _) _ _ _); k_dflt (refine' tup2_use (c_sub8 _ _ _ _ _ _ _ _ _ _ _ _ _ ?_ ?_ ?_ ?_ ?_ ?_) ?_ ?_ ?_ ?_ ?_ ?_ ?_ ?_ ?_; kst_p1; intro D9 t9 u9 c9 h9 tk9 F9 N9 l9; (try simp only [AllLt, and_true] at l9); (try dsimp only); (try k_fold))))
set_option maxRecDepth 100000 in
set_option maxHeartbeats 8000000 in
theorem c_cp8 (w : World) (p : Program) (loose : List Str) (mean : ExcName → Option Value) (mg mb : Str → Option Value) (news : List (Addr × Obj)) (a b : Int) (ta tb : Tok) (ha0 : 0 ≤ a) (ha1 : a < 256) (hb0 : 0 ≤ b) (hb1 : b < 256) :
   Does PySem.Challenge.rw_nz0560_01.row.prog w (KF w.params) p loose mean mg mb 49 3 40 news [.int a ta, .int b tb] (Tup2 news a (cpF a b)) := by
  w_on
  (have : PySem.Challenge.rw_nz0560_01 = PySem.Challenge.rw_nz0560_01 ∧ KF = KF := by (k_fill; exact ⟨rfl, rfl⟩)); clear this
  unfold Does
  intro dp un gd cn cs ad ccd cl outer A₀ base h₀ L m s Q E B F X N T hk hd hu hret
  refine wpAny_call ?_
  k_dflt cell_enter
  k_steps
  all_goals (refine hret _ _ _ _ (by k_asm) (news_drop1 (by k_asm)) (tup2_of (And.right (by assumption)) rfl (cp8_f hb0 hb1)))
local macro_rules | `(tactic| walk_at "call ref") => `(tactic| (k_here; (with_reducible show wpAny _ _ (call (Value.ref 49) _) _ _ _); k_dflt (refine' tup2_use (c_cp8 _ _ _ _ _ _ _ _ _ _ _ ?_ ?_ ?_ ?_) ?_ ?_ ?_ ?_ ?_ ?_ ?_ ?_ ?_; kst_p1; intro D9 t9 u9 c9 h9 tk9 F9 N9 l9; (try simp only [AllLt, and_true] at l9); (try dsimp only); (try k_fold))))
set_option maxRecDepth 100000 in
set_option maxHeartbeats 8000000 in
theorem c_and8 (w : World) (p : Program) (loose : List Str) (mean : ExcName → Option Value) (mg mb : Str → Option Value) (news : List (Addr × Obj)) (a b : Int) (ta tb : Tok) (ha0 : 0 ≤ a) (ha1 : a < 256) (hb0 : 0 ≤ b) (hb1 : b < 256) :
   Does PySem.Challenge.rw_nz0560_01.row.prog w (KF w.params) p loose mean mg mb 56 2 24 news [.int a ta, .int b tb] (Tup2 news (Builtin.bitAnd a b) (lgF true (Builtin.bitAnd a b))) := by
  w_on
  (have : PySem.Challenge.rw_nz0560_01 = PySem.Challenge.rw_nz0560_01 ∧ KF = KF := by (k_fill; exact ⟨rfl, rfl⟩)); clear this
  unfold Does
  intro dp un gd cn cs ad ccd cl outer A₀ base h₀ L m s Q E B F X N T hk hd hu hret
  refine wpAny_call ?_
  k_dflt cell_enter
  k_steps
  all_goals (refine hret _ _ _ _ (by k_asm) (by k_asm) (tup2_of (allLt_of (by assumption)) rfl ?_))
  all_goals first
    | with_reducible exact lg_1 _
local macro_rules | `(tactic| walk_at "call ref") => `(tactic| (k_here; (with_reducible show wpAny _ _ (call (Value.ref 56) _) _ _ _); k_dflt (refine' tup2_use (c_and8 _ _ _ _ _ _ _ _ _ _ _ ?_ ?_ ?_ ?_) ?_ ?_ ?_ ?_ ?_ ?_ ?_ ?_ ?_; kst_p1; intro D9 t9 u9 c9 h9 tk9 F9 N9 l9; (try simp only [AllLt, and_true] at l9); (try dsimp only); (try k_fold))))
set_option maxRecDepth 100000 in
set_option maxHeartbeats 8000000 in
theorem c_or8 (w : World) (p : Program) (loose : List Str) (mean : ExcName → Option Value) (mg mb : Str → Option Value) (news : List (Addr × Obj)) (a b : Int) (ta tb : Tok) (ha0 : 0 ≤ a) (ha1 : a < 256) (hb0 : 0 ≤ b) (hb1 : b < 256) :
   Does PySem.Challenge.rw_nz0560_01.row.prog w (KF w.params) p loose mean mg mb 63 2 24 news [.int a ta, .int b tb] (Tup2 news (Builtin.bitOr a b) (lgF false (Builtin.bitOr a b))) := by
  w_on
  (have : PySem.Challenge.rw_nz0560_01 = PySem.Challenge.rw_nz0560_01 ∧ KF = KF := by (k_fill; exact ⟨rfl, rfl⟩)); clear this
  unfold Does
  intro dp un gd cn cs ad ccd cl outer A₀ base h₀ L m s Q E B F X N T hk hd hu hret
  refine wpAny_call ?_
  k_dflt cell_enter
  k_steps
  all_goals (refine hret _ _ _ _ (by k_asm) (by k_asm) (tup2_of (allLt_of (by assumption)) rfl ?_))
  all_goals first
    | with_reducible exact lg_0 _
local macro_rules | `(tactic| walk_at "call ref") => `(tactic| (k_here; (with_reducible show wpAny _ _ (call (Value.ref 63) _) _ _ _); k_dflt (refine' tup2_use (c_or8 _ _ _ _ _ _ _ _ _ _ _ ?_ ?_ ?_ ?_) ?_ ?_ ?_ ?_ ?_ ?_ ?_ ?_ ?_; kst_p1; intro D9 t9 u9 c9 h9 tk9 F9 N9 l9; (try simp only [AllLt, and_true] at l9); (try dsimp only); (try k_fold))))
set_option maxRecDepth 100000 in
set_option maxHeartbeats 8000000 in
theorem c_xor8 (w : World) (p : Program) (loose : List Str) (mean : ExcName → Option Value) (mg mb : Str → Option Value) (news : List (Addr × Obj)) (a b : Int) (ta tb : Tok) (ha0 : 0 ≤ a) (ha1 : a < 256) (hb0 : 0 ≤ b) (hb1 : b < 256) :
   Does PySem.Challenge.rw_nz0560_01.row.prog w (KF w.params) p loose mean mg mb 70 2 24 news [.int a ta, .int b tb] (Tup2 news (Builtin.bitXor a b) (lgF false (Builtin.bitXor a b))) := by
  w_on
  (have : PySem.Challenge.rw_nz0560_01 = PySem.Challenge.rw_nz0560_01 ∧ KF = KF := by (k_fill; exact ⟨rfl, rfl⟩)); clear this
  unfold Does
  intro dp un gd cn cs ad ccd cl outer A₀ base h₀ L m s Q E B F X N T hk hd hu hret
  refine wpAny_call ?_
  k_dflt cell_enter
  k_steps
  all_goals (refine hret _ _ _ _ (by k_asm) (by k_asm) (tup2_of (allLt_of (by assumption)) rfl ?_))
  all_goals first
    | with_reducible exact lg_0 _
local macro_rules | `(tactic| walk_at "call ref") => `(tactic| (k_here; (with_reducible show wpAny _ _ (call (Value.ref 70) _) _ _ _); k_dflt (refine' tup2_use (c_xor8 _ _ _ _ _ _ _ _ _ _ _ ?_ ?_ ?_ ?_) ?_ ?_ ?_ ?_ ?_ ?_ ?_ ?_ ?_; kst_p1; intro D9 t9 u9 c9 h9 tk9 F9 N9 l9; (try simp only [AllLt, and_true] at l9); (try dsimp only); (try k_fold))))
set_option maxRecDepth 100000 in
set_option maxHeartbeats 8000000 in
theorem c_inc8 (w : World) (p : Program) (loose : List Str) (mean : ExcName → Option Value) (mg mb : Str → Option Value) (news : List (Addr × Obj)) (v f : Int) (tv tf : Tok) (h0 : 0 ≤ v) (h1 : v < 256) :
   Does PySem.Challenge.rw_nz0560_01.row.prog w (KF w.params) p loose mean mg mb 77 2 24 news [.int v tv, .int f tf] (Tup2 news (aR 256 1 v 1 0) (stF 1 v f)) := by
  w_on
  (have : PySem.Challenge.rw_nz0560_01 = PySem.Challenge.rw_nz0560_01 ∧ KF = KF := by (k_fill; exact ⟨rfl, rfl⟩)); clear this
  unfold Does
  intro dp un gd cn cs ad ccd cl outer A₀ base h₀ L m s Q E B F X N T hk hd hu hret
  refine wpAny_call ?_
  k_dflt cell_enter
  k_steps
  all_goals (refine hret _ _ _ _ (by k_asm) (by k_asm) (tup2_of (allLt_of (by assumption)) (inc_r h0 h1) ?_))
  all_goals first
    | with_reducible exact inc_tt h0 h1 (by assumption) (by assumption)
    | with_reducible exact inc_tf h0 h1 (by assumption) (by assumption)
    | with_reducible exact inc_ft h0 h1 (by assumption) (by assumption)
    | with_reducible exact inc_ff h0 h1 (by assumption) (by assumption)
local macro_rules | `(tactic| walk_at "call ref") => `(tactic| (k_here; (with_reducible show wpAny _ _ (call (Value.ref 77) _) _ _ _); k_dflt (refine' tup2_use (c_inc8 _ _ _ _ _ _ _ _ _ _ _ ?_ ?_) ?_ ?_ ?_ ?_ ?_ ?_ ?_ ?_ ?_; kst_p1; intro D9 t9 u9 c9 h9 tk9 F9 N9 l9; (try simp only [AllLt, and_true] at l9); (try dsimp only); (try k_fold))))
set_option maxRecDepth 100000 in
set_option maxHeartbeats 8000000 in
theorem c_dec8 (w : World) (p : Program) (loose : List Str) (mean : ExcName → Option Value) (mg mb : Str → Option Value) (news : List (Addr × Obj)) (v f : Int) (tv tf : Tok) (h0 : 0 ≤ v) (h1 : v < 256) :
   Does PySem.Challenge.rw_nz0560_01.row.prog w (KF w.params) p loose mean mg mb 84 2 24 news [.int v tv, .int f tf] (Tup2 news (aR 256 (-1) v 1 0) (stF (-1) v f)) := by
  w_on
  (have : PySem.Challenge.rw_nz0560_01 = PySem.Challenge.rw_nz0560_01 ∧ KF = KF := by (k_fill; exact ⟨rfl, rfl⟩)); clear this
  unfold Does
  intro dp un gd cn cs ad ccd cl outer A₀ base h₀ L m s Q E B F X N T hk hd hu hret
  refine wpAny_call ?_
  k_dflt cell_enter
  k_steps
  all_goals (refine hret _ _ _ _ (by k_asm) (by k_asm) (tup2_of (allLt_of (by assumption)) (dec_r h0 h1) ?_))
  all_goals first
    | with_reducible exact dec_tt h0 h1 (by assumption) (by assumption)
    | with_reducible exact dec_tf h0 h1 (by assumption) (by assumption)
    | with_reducible exact dec_ft h0 h1 (by assumption) (by assumption)
    | with_reducible exact dec_ff h0 h1 (by assumption) (by assumption)
local macro_rules | `(tactic| walk_at "call ref") => `(tactic| (k_here; (with_reducible show wpAny _ _ (call (Value.ref 84) _) _ _ _); k_dflt (refine' tup2_use (c_dec8 _ _ _ _ _ _ _ _ _ _ _ ?_ ?_) ?_ ?_ ?_ ?_ ?_ ?_ ?_ ?_ ?_; kst_p1; intro D9 t9 u9 c9 h9 tk9 F9 N9 l9; (try simp only [AllLt, and_true] at l9); (try dsimp only); (try k_fold))))
set_option maxRecDepth 100000 in
set_option maxHeartbeats 8000000 in
theorem c_neg (w : World) (p : Program) (loose : List Str) (mean : ExcName → Option Value) (mg mb : Str → Option Value) (news : List (Addr × Obj)) (a : Int) (ta : Tok) (ha0 : 0 ≤ a) (ha1 : a < 256) :
   Does PySem.Challenge.rw_nz0560_01.row.prog w (KF w.params) p loose mean mg mb 91 3 40 news [.int a ta] (Tup2 news (aR 256 (-1) 0 a 0) (oF (-1) 0 a 0)) := by
  w_on
  (have : PySem.Challenge.rw_nz0560_01 = PySem.Challenge.rw_nz0560_01 ∧ KF = KF := by (k_fill; exact ⟨rfl, rfl⟩)); clear this
  unfold Does
  intro dp un gd cn cs ad ccd cl outer A₀ base h₀ L m s Q E B F X N T hk hd hu hret
  refine wpAny_call ?_
  k_dflt cell_enter
  k_steps
  all_goals (refine hret _ _ _ _ (by k_asm) (by k_asm) ⟨_, _, _, _, rfl, rfl, by assumption⟩)
local macro_rules | `(tactic| walk_at "call ref") => `(tactic| (k_here; (with_reducible show wpAny _ _ (call (Value.ref 91) _) _ _ _); k_dflt (refine' tup2_use (c_neg _ _ _ _ _ _ _ _ _ ?_ ?_) ?_ ?_ ?_ ?_ ?_ ?_ ?_ ?_ ?_; kst_p1; intro D9 t9 u9 c9 h9 tk9 F9 N9 l9; (try simp only [AllLt, and_true] at l9); (try dsimp only); (try k_fold))))
set_option maxRecDepth 100000 in
set_option maxHeartbeats 8000000 in
theorem c_by_number (w : World) (p : Program) (loose : List Str) (mean : ExcName → Option Value) (mg mb : Str → Option Value) (news : List (Addr × Obj)) (n a b f : Int) (tn ta tb tf : Tok) (hn0 : 0 ≤ n) (hn1 : n < 8) (ha0 : 0 ≤ a) (ha1 : a < 256) (hb0 : 0 ≤ b) (hb1 : b < 256) :
   Does PySem.Challenge.rw_nz0560_01.row.prog w (KF w.params) p loose mean mg mb 98 4 56 news [.int n tn, .int a ta, .int b tb, .int f tf] (Tup2 news (ordR n a b f) (ordF n a b f)) := by
  w_on
  (have : PySem.Challenge.rw_nz0560_01 = PySem.Challenge.rw_nz0560_01 ∧ KF = KF := by (k_fill; exact ⟨rfl, rfl⟩)); clear this
  unfold Does
  intro dp un gd cn cs ad ccd cl outer A₀ base h₀ L m s Q E B F X N T hk hd hu hret
  refine wpAny_call ?_
  k_dflt cell_enter
  k_steps
  all_goals (refine hret _ _ _ _ (by k_asm) (by k_asm) (tup2_of (by assumption) ?_ ?_))
  all_goals (first | unfold ordR | unfold ordF)
  all_goals (repeat' split)
  all_goals first | (exfalso; omega) | with_reducible rfl | (rw [and1])
local macro_rules | `(tactic| walk_at "call ref") => `(tactic| (k_here; (with_reducible show wpAny _ _ (call (Value.ref 98) _) _ _ _); k_dflt (refine' tup2_use (c_by_number _ _ _ _ _ _ _ _ _ _ _ _ _ _ _ ?_ ?_ ?_ ?_ ?_ ?_) ?_ ?_ ?_ ?_ ?_ ?_ ?_ ?_ ?_; kst_p1; intro D9 t9 u9 c9 h9 tk9 F9 N9 l9; (try simp only [AllLt, and_true] at l9); (try dsimp only); (try k_fold))))
set_option maxRecDepth 100000 in
set_option maxHeartbeats 8000000 in
theorem c_high_flags (w : World) (p : Program) (loose : List Str) (mean : ExcName → Option Value) (mg mb : Str → Option Value) (news : List (Addr × Obj)) (x y r : Int) (tx ty tr : Tok) :
   Does PySem.Challenge.rw_nz0560_01.row.prog w (KF w.params) p loose mean mg mb 105 1 8 news [.int x tx, .int y ty, .int r tr] (RetI news (hiF x y r)) := by
  w_on
  (have : PySem.Challenge.rw_nz0560_01 = PySem.Challenge.rw_nz0560_01 ∧ KF = KF := by (k_fill; exact ⟨rfl, rfl⟩)); clear this
  unfold Does
  intro dp un gd cn cs ad ccd cl outer A₀ base h₀ L m s Q E B F X N T hk hd hu hret
  refine wpAny_call ?_
  k_dflt cell_enter
  k_steps
  all_goals exact hret _ _ _ _ (by k_asm) (by k_asm) ⟨⟨_, by rw [← hi_eq]⟩, rfl⟩
local macro_rules | `(tactic| walk_at "call ref") => `(tactic| (k_here; (with_reducible show wpAny _ _ (call (Value.ref 105) _) _ _ _); k_dflt (refine' retI_use (c_high_flags _ _ _ _ _ _ _ _ _ _ _ _ _) ?_ ?_ ?_ ?_ ?_ ?_ ?_ ?_ ?_; kst_p1; intro t9 h9 tk9 F9 N9; (try dsimp only); (try k_fold))))
set_option maxRecDepth 100000 in
set_option maxHeartbeats 8000000 in
theorem c_word_flags (w : World) (p : Program) (loose : List Str) (mean : ExcName → Option Value) (mg mb : Str → Option Value) (news : List (Addr × Obj)) (r : Int) (tr : Tok) (h0 : 0 ≤ r) (h1 : r < 65536) :
   Does PySem.Challenge.rw_nz0560_01.row.prog w (KF w.params) p loose mean mg mb 119 1 8 news [.int r tr] (RetI news (wzF r)) := by
  w_on
  (have : PySem.Challenge.rw_nz0560_01 = PySem.Challenge.rw_nz0560_01 ∧ KF = KF := by (k_fill; exact ⟨rfl, rfl⟩)); clear this
  unfold Does
  intro dp un gd cn cs ad ccd cl outer A₀ base h₀ L m s Q E B F X N T hk hd hu hret
  refine wpAny_call ?_
  k_dflt cell_enter
  k_steps
  all_goals first
    | exact hret _ _ _ _ (by k_asm) (by k_asm) ⟨⟨_, by rw [wz_1 h0 h1 (by assumption)]⟩, rfl⟩
    | exact hret _ _ _ _ (by k_asm) (by k_asm) ⟨⟨_, by rw [wz_0 h0 h1 (by assumption)]⟩, rfl⟩
local macro_rules | `(tactic| walk_at "call ref") => `(tactic| (k_here; (with_reducible show wpAny _ _ (call (Value.ref 119) _) _ _ _); k_dflt (refine' retI_use (c_word_flags _ _ _ _ _ _ _ _ _ ?_ ?_) ?_ ?_ ?_ ?_ ?_ ?_ ?_ ?_ ?_; kst_p1; intro t9 h9 tk9 F9 N9; (try dsimp only); (try k_fold))))
set_option maxRecDepth 100000 in
set_option maxHeartbeats 8000000 in
theorem c_add16 (w : World) (p : Program) (loose : List Str) (mean : ExcName → Option Value) (mg mb : Str → Option Value) (news : List (Addr × Obj)) (x y f : Int) (tx ty tf : Tok) (hx0 : 0 ≤ x) (hx1 : x < 65536) (hy0 : 0 ≤ y) (hy1 : y < 65536) :
   Does PySem.Challenge.rw_nz0560_01.row.prog w (KF w.params) p loose mean mg mb 112 2 24 news [.int x tx, .int y ty, .int f tf] (Tup2 news (aR 65536 1 x y 0) (a16F x y f)) := by
  w_on
  (have : PySem.Challenge.rw_nz0560_01 = PySem.Challenge.rw_nz0560_01 ∧ KF = KF := by (k_fill; exact ⟨rfl, rfl⟩)); clear this
  unfold Does
  intro dp un gd cn cs ad ccd cl outer A₀ base h₀ L m s Q E B F X N T hk hd hu hret
  refine wpAny_call ?_
  k_dflt cell_enter
  k_steps
  all_goals (refine hret _ _ _ _ (by k_asm) (by k_asm) (tup2_of (allLt_of (by assumption)) add16_r ?_))
  all_goals first
    | with_reducible exact add16_f hx0 hx1 hy0 hy1
local macro_rules | `(tactic| walk_at "call ref") => `(tactic| (k_here; (with_reducible show wpAny _ _ (call (Value.ref 112) _) _ _ _); k_dflt (refine' tup2_use (c_add16 _ _ _ _ _ _ _ _ _ _ _ _ _ ?_ ?_ ?_ ?_) ?_ ?_ ?_ ?_ ?_ ?_ ?_ ?_ ?_; kst_p1; intro D9 t9 u9 c9 h9 tk9 F9 N9 l9; (try simp only [AllLt, and_true] at l9); (try dsimp only); (try k_fold))))
set_option maxRecDepth 100000 in
set_option maxHeartbeats 8000000 in
theorem c_adc16 (w : World) (p : Program) (loose : List Str) (mean : ExcName → Option Value) (mg mb : Str → Option Value) (news : List (Addr × Obj)) (x y c : Int) (tx ty tc : Tok) (hx0 : 0 ≤ x) (hx1 : x < 65536) (hy0 : 0 ≤ y) (hy1 : y < 65536) (hc0 : 0 ≤ c) (hc1 : c ≤ 1) :
   Does PySem.Challenge.rw_nz0560_01.row.prog w (KF w.params) p loose mean mg mb 126 2 24 news [.int x tx, .int y ty, .int c tc] (Tup2 news (aR 65536 1 x y c) (wdF 1 x y c)) := by
  w_on
  (have : PySem.Challenge.rw_nz0560_01 = PySem.Challenge.rw_nz0560_01 ∧ KF = KF := by (k_fill; exact ⟨rfl, rfl⟩)); clear this
  unfold Does
  intro dp un gd cn cs ad ccd cl outer A₀ base h₀ L m s Q E B F X N T hk hd hu hret
  refine wpAny_call ?_
  k_dflt cell_enter
  k_steps
  all_goals (refine hret _ _ _ _ (by k_asm) (by k_asm) (tup2_of (allLt_of (by assumption)) (adc16_r hx0 hx1 hy0 hy1 hc0 hc1) ?_))
  all_goals first
    | with_reducible exact adc16w_t hx0 hx1 hy0 hy1 hc0 hc1 (by assumption)
    | with_reducible exact adc16w_f hx0 hx1 hy0 hy1 hc0 hc1 (by assumption)
local macro_rules | `(tactic| walk_at "call ref") => `(tactic| (k_here; (with_reducible show wpAny _ _ (call (Value.ref 126) _) _ _ _); k_dflt (refine' tup2_use (c_adc16 _ _ _ _ _ _ _ _ _ _ _ _ _ ?_ ?_ ?_ ?_ ?_ ?_) ?_ ?_ ?_ ?_ ?_ ?_ ?_ ?_ ?_; kst_p1; intro D9 t9 u9 c9 h9 tk9 F9 N9 l9; (try simp only [AllLt, and_true] at l9); (try dsimp only); (try k_fold))))
set_option maxRecDepth 100000 in
set_option maxHeartbeats 8000000 in
theorem c_sbc16 (w : World) (p : Program) (loose : List Str) (mean : ExcName → Option Value) (mg mb : Str → Option Value) (news : List (Addr × Obj)) (x y c : Int) (tx ty tc : Tok) (hx0 : 0 ≤ x) (hx1 : x < 65536) (hy0 : 0 ≤ y) (hy1 : y < 65536) (hc0 : 0 ≤ c) (hc1 : c ≤ 1) :
   Does PySem.Challenge.rw_nz0560_01.row.prog w (KF w.params) p loose mean mg mb 133 2 24 news [.int x tx, .int y ty, .int c tc] (Tup2 news (aR 65536 (-1) x y c) (wdF (-1) x y c)) := by
  w_on
  (have : PySem.Challenge.rw_nz0560_01 = PySem.Challenge.rw_nz0560_01 ∧ KF = KF := by (k_fill; exact ⟨rfl, rfl⟩)); clear this
  unfold Does
  intro dp un gd cn cs ad ccd cl outer A₀ base h₀ L m s Q E B F X N T hk hd hu hret
  refine wpAny_call ?_
  k_dflt cell_enter
  k_steps
  all_goals (refine hret _ _ _ _ (by k_asm) (by k_asm) (tup2_of (allLt_of (by assumption)) (sbc16_r hx0 hx1 hy0 hy1 hc0 hc1) ?_))
  all_goals first
    | with_reducible exact sbc16_tt hx0 hx1 hy0 hy1 hc0 hc1 (by assumption) (by assumption)
    | with_reducible exact sbc16_tf hx0 hx1 hy0 hy1 hc0 hc1 (by assumption) (by assumption)
    | with_reducible exact sbc16_ft hx0 hx1 hy0 hy1 hc0 hc1 (by assumption) (by assumption)
    | with_reducible exact sbc16_ff hx0 hx1 hy0 hy1 hc0 hc1 (by assumption) (by assumption)
local macro_rules | `(tactic| walk_at "call ref") => `(tactic| (k_here; (with_reducible show wpAny _ _ (call (Value.ref 133) _) _ _ _); k_dflt (refine' tup2_use (c_sbc16 _ _ _ _ _ _ _ _ _ _ _ _ _ ?_ ?_ ?_ ?_ ?_ ?_) ?_ ?_ ?_ ?_ ?_ ?_ ?_ ?_ ?_; kst_p1; intro D9 t9 u9 c9 h9 tk9 F9 N9 l9; (try simp only [AllLt, and_true] at l9); (try dsimp only); (try k_fold))))
set_option maxRecDepth 100000 in
set_option maxHeartbeats 8000000 in
theorem c_signed8 (w : World) (p : Program) (loose : List Str) (mean : ExcName → Option Value) (mg mb : Str → Option Value) (news : List (Addr × Obj)) (v : Int) (tv tb : Tok) :
   Does PySem.Challenge.rw_nz0560_01.row.prog w (KF w.params) p loose mean mg mb 166 1 8 news [.int v tv, .int 8 tb] (RetI news (sgn 256 v)) := by
  w_on
  (have : PySem.Challenge.rw_nz0560_01 = PySem.Challenge.rw_nz0560_01 ∧ KF = KF := by (k_fill; exact ⟨rfl, rfl⟩)); clear this
  unfold Does
  intro dp un gd cn cs ad ccd cl outer A₀ base h₀ L m s Q E B F X N T hk hd hu hret
  refine wpAny_call ?_
  k_dflt cell_enter
  k_steps
  all_goals first
    | exact hret _ _ _ _ (by k_asm) (by k_asm) ⟨⟨_, by rw [← sgn8_1 (by assumption)]⟩, rfl⟩
    | exact hret _ _ _ _ (by k_asm) (by k_asm) ⟨⟨_, by rw [← sgn8_0 (by assumption)]⟩, rfl⟩
local macro_rules | `(tactic| walk_at "call ref") => `(tactic| (k_here; (with_reducible show wpAny _ _ (call (Value.ref 166) [_, Value.int 8 _]) _ _ _); k_dflt (refine' retI_use (c_signed8 _ _ _ _ _ _ _ _ _ _) ?_ ?_ ?_ ?_ ?_ ?_ ?_ ?_ ?_; kst_p1; intro t9 h9 tk9 F9 N9; (try dsimp only); (try k_fold))))
set_option maxRecDepth 100000 in
set_option maxHeartbeats 8000000 in
theorem c_signed16 (w : World) (p : Program) (loose : List Str) (mean : ExcName → Option Value) (mg mb : Str → Option Value) (news : List (Addr × Obj)) (v : Int) (tv tb : Tok) :
   Does PySem.Challenge.rw_nz0560_01.row.prog w (KF w.params) p loose mean mg mb 166 1 8 news [.int v tv, .int 16 tb] (RetI news (sgn 65536 v)) := by
  w_on
  (have : PySem.Challenge.rw_nz0560_01 = PySem.Challenge.rw_nz0560_01 ∧ KF = KF := by (k_fill; exact ⟨rfl, rfl⟩)); clear this
  unfold Does
  intro dp un gd cn cs ad ccd cl outer A₀ base h₀ L m s Q E B F X N T hk hd hu hret
  refine wpAny_call ?_
  k_dflt cell_enter
  k_steps
  all_goals first
    | exact hret _ _ _ _ (by k_asm) (by k_asm) ⟨⟨_, by rw [← sgn16_1 (by assumption)]⟩, rfl⟩
    | exact hret _ _ _ _ (by k_asm) (by k_asm) ⟨⟨_, by rw [← sgn16_0 (by assumption)]⟩, rfl⟩
local macro_rules | `(tactic| walk_at "call ref") => `(tactic| (k_here; (with_reducible show wpAny _ _ (call (Value.ref 166) [_, Value.int 16 _]) _ _ _); k_dflt (refine' retI_use (c_signed16 _ _ _ _ _ _ _ _ _ _) ?_ ?_ ?_ ?_ ?_ ?_ ?_ ?_ ?_; kst_p1; intro t9 h9 tk9 F9 N9; (try dsimp only); (try k_fold))))
set_option maxRecDepth 100000 in
set_option maxHeartbeats 8000000 in
theorem c_even (w : World) (p : Program) (loose : List Str) (mean : ExcName → Option Value) (mg mb : Str → Option Value) (news : List (Addr × Obj)) (v : Int) (tv : Tok) (h0 : 0 ≤ v) (h1 : v < 256) :
   Does PySem.Challenge.rw_nz0560_01.row.prog w (KF w.params) p loose mean mg mb 171 1 8 news [.int v tv] (RetB news (par v)) := by
  w_on
  (have : PySem.Challenge.rw_nz0560_01 = PySem.Challenge.rw_nz0560_01 ∧ KF = KF := by (k_fill; exact ⟨rfl, rfl⟩)); clear this
  unfold Does
  intro dp un gd cn cs ad ccd cl outer A₀ base h₀ L m s Q E B F X N T hk hd hu hret
  refine wpAny_call ?_
  k_dflt (refine' code_defC ?k1 ?k2 ?k3 ?k4 ?k5 ?kA ?kF ?kK ?k6 ?k7 ?k8 ?k9 ?kB ?kD ?_ ?c2 ?c3 ?c4; (case kA => exact rfl); (case kF => exact rfl); (case kK => assumption); (case k1 => k_asm); (case k2 => k_asm); (case k3 => k_asm); (case k4 => k_asm); (case k5 => k_asm); (case k6 => k_is); (case k7 => k_is); (case k8 => ktr_room); (case k9 => exact BindsTo.of_eq rfl); (case kB => exact rfl); (case kD => decide +kernel); (case c2 => exact rfl); (case c3 => exact rfl); (case c4 => exact rfl); k_whole; intro g' L' h' tk' cells' FG' F' N' Y' B' X' T' l1; (replace l1 := allLt_of l1); k_cells Y'; (try simp only [List.cons_append, List.nil_append] at N'); (try dsimp only); (try k_lift B'); (try k_fold))
  k_steps
  all_goals exact hret _ _ _ _ (by k_asm) (cb_drop (news := news) (by k_asm) (by kcj_all)) ⟨by rw [even_of h0 h1], rfl⟩
local macro_rules | `(tactic| walk_at "call ref") => `(tactic| (k_here; (with_reducible show wpAny _ _ (call (Value.ref 171) _) _ _ _); k_dflt (refine' retB_use (c_even _ _ _ _ _ _ _ _ _ ?_ ?_) ?_ ?_ ?_ ?_ ?_ ?_ ?_ ?_ ?_; kst_p1; intro h9 tk9 F9 N9; (try dsimp only); (try k_fold))))
set_option maxRecDepth 100000 in
set_option maxHeartbeats 8000000 in
theorem c_of (w : World) (p : Program) (loose : List Str) (mean : ExcName → Option Value) (mg mb : Str → Option Value) (news : List (Addr × Obj)) (r : Int) (tr : Tok) :
   Does PySem.Challenge.rw_nz0560_01.row.prog w (KF w.params) p loose mean mg mb 188 1 8 news [.int r tr] (Dct PySem.Challenge.rw_nz0560_01.row.prog w news [(Str.ofString "S", Value.bool (decide (127 < r))), (Str.ofString "Z", Value.bool (decide (r = 0))), (Str.ofString "Y", Value.bool (decide (r / 32 % 2 = 1))), (Str.ofString "X", Value.bool (decide (r / 8 % 2 = 1)))]) := by
  w_on
  (have : PySem.Challenge.rw_nz0560_01 = PySem.Challenge.rw_nz0560_01 ∧ KF = KF := by (k_fill; exact ⟨rfl, rfl⟩)); clear this
  unfold Does
  intro dp un gd cn cs ad ccd cl outer A₀ base h₀ L m s Q E B F X N T hk hd hu hret
  refine wpAny_call ?_
  k_dflt cell_enter
  k_steps
  all_goals exact hret _ _ _ _ (by k_asm) (by k_asm) (dct_of (allLt_of (by assumption)) (by assumption) (by assumption) (by assumption) (of_kvs r))
local macro_rules | `(tactic| walk_at "call ref") => `(tactic| (k_here; (with_reducible show wpAny _ _ (call (Value.ref 188) _) _ _ _); k_dflt (refine' dct_use (c_of _ _ _ _ _ _ _ _ _) ?_ ?_ ?_ ?_ ?_ ?_ ?_ ?_ ?_; kst_p1; intro D9 o9 DD9 h9 tk9 F9 N9 l9 lo9 hd9 hf9; (try simp only [AllLt, and_true] at l9); (try dsimp only); (try k_fold))))
local macro_rules | `(tactic| k_fmods) => `(tactic| skip)
section
local macro_rules | `(tactic| walk_at "eval UnaryOp") => `(tactic| ((fail_if_success (with_reducible show wpAny _ _ _ (PureB _ _) _ _)); refine unhold ?_))
set_option maxRecDepth 100000 in
set_option maxHeartbeats 8000000 in
theorem c_sum8 (w : World) (p : Program) (loose : List Str) (mean : ExcName → Option Value) (mg mb : Str → Option Value) (news : List (Addr × Obj)) (a b wy c : Int) (ta tb tw tc tk : Tok) (hw0 : -1 ≤ wy) (hw1 : wy ≤ 1) :
   Does PySem.Challenge.rw_nz0560_01.row.prog w (KF w.params) p loose mean mg mb 195 2 24 news [.int a ta, .int b tb, .int wy tw, .int c tc, .int 8 tk] (Tup4 news (aR 256 wy a b c) (aC 256 wy a b c) (aH 16 wy a b c) (aV 256 wy a b c)) := by
  w_on
  (have : PySem.Challenge.rw_nz0560_01 = PySem.Challenge.rw_nz0560_01 ∧ KF = KF := by (k_fill; exact ⟨rfl, rfl⟩)); clear this
  unfold Does
  intro dp un gd cn cs ad ccd cl outer A₀ base h₀ L m s Q E B F X N T hk hd hu hret
  refine wpAny_call ?_
  k_dflt cell_enter
  k_steps
  unfold Hold
  refine joinB (aV 256 wy a b c) ?_ ?_
  · k_steps
    all_goals exact PureB.intro (by first | exact su8_v1 (by assumption) | exact su8_v0 (by assumption))
  intro tkv
  k_steps
  unfold Hold
  refine joinB (aC 256 wy a b c) ?_ ?_
  · k_steps
    all_goals exact PureB.intro (by first | exact su8_c1 (by assumption) | exact su8_c0 (by assumption))
  intro tkc
  k_steps
  unfold Hold
  refine joinB (aH 16 wy a b c) ?_ ?_
  · k_steps
    all_goals exact PureB.intro (by first | exact su8_h1 (by assumption) | exact su8_h0 (by assumption))
  intro tkh
  k_steps
  all_goals exact hret _ _ _ _ (by k_asm) (by k_asm) (tup4_of (allLt_of (by assumption)) (su8_r _ _ _ _) rfl rfl rfl)
end
local macro_rules | `(tactic| walk_at "call ref") => `(tactic| (k_here; (with_reducible show wpAny _ _ (call (Value.ref 195) [_, _, _, _, Value.int 8 _]) _ _ _); k_dflt (refine' tup4_use (c_sum8 _ _ _ _ _ _ _ _ _ _ _ _ _ _ _ _ ?_ ?_) ?_ ?_ ?_ ?_ ?_ ?_ ?_ ?_ ?_; kst_p1; intro D9 t9 c9 h9 tk9 F9 N9 l9; (try simp only [AllLt, and_true] at l9); (try dsimp only); (try k_fold))))
section
local macro_rules | `(tactic| walk_at "eval UnaryOp") => `(tactic| ((fail_if_success (with_reducible show wpAny _ _ _ (PureB _ _) _ _)); refine unhold ?_))
set_option maxRecDepth 100000 in
set_option maxHeartbeats 8000000 in
theorem c_sum16 (w : World) (p : Program) (loose : List Str) (mean : ExcName → Option Value) (mg mb : Str → Option Value) (news : List (Addr × Obj)) (a b wy c : Int) (ta tb tw tc tk : Tok) (hw0 : -1 ≤ wy) (hw1 : wy ≤ 1) :
   Does PySem.Challenge.rw_nz0560_01.row.prog w (KF w.params) p loose mean mg mb 195 2 24 news [.int a ta, .int b tb, .int wy tw, .int c tc, .int 16 tk] (Tup4 news (aR 65536 wy a b c) (aC 65536 wy a b c) (aH 4096 wy a b c) (aV 65536 wy a b c)) := by
  w_on
  (have : PySem.Challenge.rw_nz0560_01 = PySem.Challenge.rw_nz0560_01 ∧ KF = KF := by (k_fill; exact ⟨rfl, rfl⟩)); clear this
  unfold Does
  intro dp un gd cn cs ad ccd cl outer A₀ base h₀ L m s Q E B F X N T hk hd hu hret
  refine wpAny_call ?_
  k_dflt cell_enter
  k_steps
  unfold Hold
  refine joinB (aV 65536 wy a b c) ?_ ?_
  · k_steps
    all_goals exact PureB.intro (by first | exact su16_v1 (by assumption) | exact su16_v0 (by assumption))
  intro tkv
  k_steps
  unfold Hold
  refine joinB (aC 65536 wy a b c) ?_ ?_
  · k_steps
    all_goals exact PureB.intro (by first | exact su16_c1 (by assumption) | exact su16_c0 (by assumption))
  intro tkc
  k_steps
  unfold Hold
  refine joinB (aH 4096 wy a b c) ?_ ?_
  · k_steps
    all_goals exact PureB.intro (by first | exact su16_h1 (by assumption) | exact su16_h0 (by assumption))
  intro tkh
  k_steps
  all_goals exact hret _ _ _ _ (by k_asm) (by k_asm) (tup4_of (allLt_of (by assumption)) (su16_r _ _ _ _) rfl rfl rfl)
end
local macro_rules | `(tactic| walk_at "call ref") => `(tactic| (k_here; (with_reducible show wpAny _ _ (call (Value.ref 195) [_, _, _, _, Value.int 16 _]) _ _ _); k_dflt (refine' tup4_use (c_sum16 _ _ _ _ _ _ _ _ _ _ _ _ _ _ _ _ ?_ ?_) ?_ ?_ ?_ ?_ ?_ ?_ ?_ ?_ ?_; kst_p1; intro D9 t9 c9 h9 tk9 F9 N9 l9; (try simp only [AllLt, and_true] at l9); (try dsimp only); (try k_fold))))
section
local macro_rules | `(tactic| k_mem) => `(tactic| ((repeat refine List.Mem.tail _ ?_); assumption))
local macro_rules | `(tactic| k_mem) => `(tactic| (first | exact List.Mem.head _ | (refine List.Mem.tail _ ?_; k_mem)))
local macro_rules | `(tactic| walk_at "CompEnd") => `(tactic| (refine' ce_tup ?cF ?cN ?cT ?cO ?cS ?_; (case cF => assumption); (case cN => assumption); (case cT => assumption); (case cO => assumption); (case cS => exact Or.inr ⟨_, by k_mem, rfl, _, rfl⟩)))
local macro_rules | `(tactic| walk_at "call type:dict") => `(tactic| (k_here; (with_reducible show wpAny _ _ (call (Value.type "dict") [Value.ref _]) _ _ _); k_dflt (refine' dict_pairs3 ?cF ?cN ?cT ?cH ?cl ?c1 ?c2 ?c3 ?cn ?_; (case cF => k_asm); (case cN => k_asm); (case cT => k_asm); (case cH => rfl); (case cl => k_mem); (case c1 => k_mem); (case c2 => k_mem); (case c3 => k_mem); (case cn => decide); intro d' h' tk' o' F' N' lo' hd' l1')))
set_option maxRecDepth 100000 in
set_option maxHeartbeats 8000000 in
theorem c_kept (w : World) (p : Program) (loose : List Str) (mean : ExcName → Option Value) (mg mb : Str → Option Value) (news : List (Addr × Obj)) (f : Int) (tf : Tok) (n : Addr) (c : Nat) (t1 t2 t3 : Tok) (hn : (n, ({ cls := .type "list", data := .seq #[.str (Str.ofString "S") t1, .str (Str.ofString "Z") t2, .str (Str.ofString "V") t3] c } : Obj)) ∈ news) :
   Does PySem.Challenge.rw_nz0560_01.row.prog w (KF w.params) p loose mean mg mb 181 2 24 news [.int f tf, .ref n] (Dct PySem.Challenge.rw_nz0560_01.row.prog w news [(Str.ofString "S", Value.bool (decide (f / 128 % 2 = 1))), (Str.ofString "Z", Value.bool (decide (f / 64 % 2 = 1))), (Str.ofString "V", Value.bool (decide (f / 4 % 2 = 1)))]) := by
  w_on
  (have : PySem.Challenge.rw_nz0560_01 = PySem.Challenge.rw_nz0560_01 ∧ KF = KF := by (k_fill; exact ⟨rfl, rfl⟩)); clear this
  unfold Does
  intro dp un gd cn cs ad ccd cl outer A₀ base h₀ L m s Q E B F X N T hk hd hu hret
  refine wpAny_call ?_
  k_dflt (refine' code_defC ?k1 ?k2 ?k3 ?k4 ?k5 ?kA ?kF ?kK ?k6 ?k7 ?k8 ?k9 ?kB ?kD ?_ ?c2 ?c3 ?c4; (case kA => exact rfl); (case kF => exact rfl); (case kK => assumption); (case k1 => k_asm); (case k2 => k_asm); (case k3 => k_asm); (case k4 => k_asm); (case k5 => k_asm); (case k6 => k_is); (case k7 => k_is); (case k8 => ktr_room); (case k9 => exact BindsTo.of_eq rfl); (case kB => exact rfl); (case kD => decide +kernel); (case c2 => exact rfl); (case c3 => exact rfl); (case c4 => exact rfl); k_whole; intro g' L' h' tk' cells' FG' F' N' Y' B' X' T' l1; (replace l1 := allLt_of l1); k_cells Y'; (try simp only [List.cons_append, List.nil_append] at N'); (try dsimp only); (try k_lift B'); (try k_fold))
  k_steps
  all_goals exact hret _ _ _ _ (by k_asm) (news_head (by k_asm) (fun _ hp => by repeat (first | exact hp | refine List.Mem.tail _ ?_))) (dct3 (allLt_sub (by assumption) (fun _ hp => by repeat (first | exact hp | refine List.Mem.tail _ ?_))) (by assumption) (by assumption) (bit_eq f (by decide)) (bit_eq f (by decide)) (bit_eq f (by decide)))
end
local macro_rules | `(tactic| walk_at "call ref") => `(tactic| (k_here; (with_reducible show wpAny _ _ (call (Value.ref 181) _) _ _ _); k_dflt (refine' dct_use (c_kept _ _ _ _ _ _ _ _ _ _ _ _ _ _ ?_) ?_ ?_ ?_ ?_ ?_ ?_ ?_ ?_ ?_; kst_p1; intro D9 o9 DD9 h9 tk9 F9 N9 l9 lo9 hd9 hf9; (try simp only [AllLt, and_true] at l9); (try dsimp only); (try k_fold))))
local macro_rules | `(tactic| k_mem) => `(tactic| ((repeat refine List.Mem.tail _ ?_); assumption))
local macro_rules | `(tactic| k_mem) => `(tactic| (first | exact List.Mem.head _ | (refine List.Mem.tail _ ?_; k_mem)))
local macro_rules | `(tactic| walk_at "setItem ref str") => `(tactic| (k_here; k_dflt (refine' kda_set (knd := PySem.strKind _ _) ?F ?N ?U ?d (strKind_is _ _ _ _) ?z ?_; (case F => k_asm); (case N => k_asm); (case U => k_updF); (case d => k_asm); (case z => (refine line_0 ?_; (repeat refine line_st ?_); simp only [List.length_cons, List.length_nil]; rw [PySem.sizeLine_eq]; omega)); intro h' o' F' N' hd'; (try dsimp only at N'))))
local macro_rules | `(tactic| walk_at "newTuple") => `(tactic| (k_here; k_dflt (refine' kup_newTuple ?F ?N ?_ ?z; (case F => k_asm); (case N => k_asm); (case z => kmk_size)); intro D' h' F' N' l1; (try k_lt l1); (try k_sweep)))
local macro_rules | `(tactic| tb_rel) => `(tactic| (repeat with_reducible first | exact vg_hit | exact vc_hit | exact vs_hit | exact vn0 | exact vs_nil | refine vg_miss (by decide) ?_ | refine vc_miss (by decide) ?_ | refine vs_miss (by decide) ?_))
local macro_rules | `(tactic| walk_at "call ref") => `(tactic| (k_here; (with_reducible show wpAny _ _ (call (Value.ref 176) _) _ _ _); k_dflt (refine' retI_use (c_flags _ _ _ _ _ _ _ _ _ _ ?_ ?_ ?_ _ _ _ _ _ _ _ _ ?_ ?_ ?_ ?_ ?_ ?_ ?_ ?_) ?_ ?_ ?_ ?_ ?_ ?_ ?_ ?_ ?_; kst_p1; (all_goals first | ((with_reducible show (_ == sysModules) = false); assumption) | ((with_reducible show Obj.IsDictOf _ _ _); assumption) | skip); (all_goals first | ((with_reducible show Option.getD _ _ = _); tb_rel) | skip); intro t9 h9 tk9 F9 N9; (try dsimp only); (try k_fold))))
set_option maxRecDepth 100000 in
set_option maxHeartbeats 8000000 in
theorem c_step (w : World) (p : Program) (loose : List Str) (mean : ExcName → Option Value) (mg mb : Str → Option Value) (news : List (Addr × Obj)) (v f wy : Int) (tv tf tw : Tok) (hw0 : -1 ≤ wy) (hw1 : wy ≤ 1) :
   Does PySem.Challenge.rw_nz0560_01.row.prog w (KF w.params) p loose mean mg mb 207 3 40 news [.int v tv, .int f tf, .int wy tw] (Tup2 news (aR 256 wy v 1 0) (stF wy v f)) := by
  w_on
  (have : PySem.Challenge.rw_nz0560_01 = PySem.Challenge.rw_nz0560_01 ∧ KF = KF := by (k_fill; exact ⟨rfl, rfl⟩)); clear this
  unfold Does
  intro dp un gd cn cs ad ccd cl outer A₀ base h₀ L m s Q E B F X N T hk hd hu hret
  refine wpAny_call ?_
  k_dflt cell_enter
  k_steps
  all_goals exact hret _ _ _ _ (by k_asm) (news_head (by k_asm) (fun _ hp => by repeat (first | exact hp | refine List.Mem.tail _ ?_))) (tup2_of (by first | assumption | exact allLt_of (by assumption) | exact ltN (by assumption) (fun _ hp => by repeat (first | exact hp | refine List.Mem.tail _ ?_)) | ((rename _ ∧ _ => l9); first | exact l9.2 | exact l9.2.2 | exact l9.2.2.2 | exact l9.2.2.2.2 | exact l9.2.2.2.2.2 | exact l9.2.2.2.2.2.2 | exact l9.2.2.2.2.2.2.2 | exact l9.2.2.2.2.2.2.2.2 | exact l9.2.2.2.2.2.2.2.2.2 | exact l9.2.2.2.2.2.2.2.2.2.2 | exact l9.2.2.2.2.2.2.2.2.2.2.2 | exact l9.2.2.2.2.2.2.2.2.2.2.2.2 | exact l9.2.2.2.2.2.2.2.2.2.2.2.2.2 | exact l9.2.2.2.2.2.2.2.2.2.2.2.2.2.2 | exact l9.2.2.2.2.2.2.2.2.2.2.2.2.2.2.2)) (rfl) (by rw [f2_eq]; rfl))
local macro_rules | `(tactic| walk_at "call ref") => `(tactic| (k_here; (with_reducible show wpAny _ _ (call (Value.ref 207) _) _ _ _); k_dflt (refine' tup2_use (c_step _ _ _ _ _ _ _ _ _ _ _ _ _ ?_ ?_) ?_ ?_ ?_ ?_ ?_ ?_ ?_ ?_ ?_; kst_p1; intro D9 t9 u9 c9 h9 tk9 F9 N9 l9; (try simp only [AllLt, and_true] at l9); (try dsimp only); (try k_fold))))
section
local macro_rules | `(tactic| walk_at "eval IfExp") => `(tactic| ((fail_if_success (with_reducible show wpAny _ _ _ (PureI _ _) _ _)); (fail_if_success (with_reducible show wpAny _ _ _ (PureIH _ _ _ _ _ _) _ _)); refine unhold ?_))
set_option maxRecDepth 100000 in
set_option maxHeartbeats 8000000 in
theorem c_words (w : World) (p : Program) (loose : List Str) (mean : ExcName → Option Value) (mg mb : Str → Option Value) (news : List (Addr × Obj)) (x y f n : Int) (tx ty tf tk : Tok) (hn0 : 0 ≤ n) :
   Does PySem.Challenge.rw_nz0560_01.row.prog w (KF w.params) p loose mean mg mb 214 3 40 news [.int x tx, .int y ty, .int f tf, .int n tk] (Tup2 news (aR 65536 (wW n) x y (wC n f)) (wF n x y f)) := by
  w_on
  (have : PySem.Challenge.rw_nz0560_01 = PySem.Challenge.rw_nz0560_01 ∧ KF = KF := by (k_fill; exact ⟨rfl, rfl⟩)); clear this
  unfold Does
  intro dp un gd cn cs ad ccd cl outer A₀ base h₀ L m s Q E B F X N T hk hd hu hret
  refine wpAny_call ?_
  k_dflt cell_enter
  k_steps
  unfold Hold
  refine joinI (wC n f) ?_ ?_
  · k_steps
    all_goals exact PureI.intro (by first | exact (if_pos (by assumption)).symm | exact (if_neg (by assumption)).symm)
  intro t1 tk1
  k_steps
  unfold Hold
  refine joinI (wW n) ?_ ?_
  · k_steps
    all_goals exact PureI.intro (by first | exact (if_pos (by assumption)).symm | exact (if_neg (by assumption)).symm)
  intro t2 tk2
  have hw0 := wW_lo n
  have hw1 := wW_hi n
  k_steps
  all_goals first
    | exact hret _ _ _ _ (by k_asm) (news_head (by k_asm) (fun _ hp => by repeat (first | exact hp | refine List.Mem.tail _ ?_))) (tup2_of (by first | assumption | exact allLt_of (by assumption) | exact ltN (by assumption) (fun _ hp => by repeat (first | exact hp | refine List.Mem.tail _ ?_)) | ((rename _ ∧ _ => l9); first | exact l9.2 | exact l9.2.2 | exact l9.2.2.2 | exact l9.2.2.2.2 | exact l9.2.2.2.2.2 | exact l9.2.2.2.2.2.2 | exact l9.2.2.2.2.2.2.2 | exact l9.2.2.2.2.2.2.2.2 | exact l9.2.2.2.2.2.2.2.2.2 | exact l9.2.2.2.2.2.2.2.2.2.2 | exact l9.2.2.2.2.2.2.2.2.2.2.2 | exact l9.2.2.2.2.2.2.2.2.2.2.2.2 | exact l9.2.2.2.2.2.2.2.2.2.2.2.2.2 | exact l9.2.2.2.2.2.2.2.2.2.2.2.2.2.2 | exact l9.2.2.2.2.2.2.2.2.2.2.2.2.2.2.2)) (rfl) (words_1 (by assumption)))
    | exact hret _ _ _ _ (by k_asm) (news_head (by k_asm) (fun _ hp => by repeat (first | exact hp | refine List.Mem.tail _ ?_))) (tup2_of (by first | assumption | exact allLt_of (by assumption) | exact ltN (by assumption) (fun _ hp => by repeat (first | exact hp | refine List.Mem.tail _ ?_)) | ((rename _ ∧ _ => l9); first | exact l9.2 | exact l9.2.2 | exact l9.2.2.2 | exact l9.2.2.2.2 | exact l9.2.2.2.2.2 | exact l9.2.2.2.2.2.2 | exact l9.2.2.2.2.2.2.2 | exact l9.2.2.2.2.2.2.2.2 | exact l9.2.2.2.2.2.2.2.2.2 | exact l9.2.2.2.2.2.2.2.2.2.2 | exact l9.2.2.2.2.2.2.2.2.2.2.2 | exact l9.2.2.2.2.2.2.2.2.2.2.2.2 | exact l9.2.2.2.2.2.2.2.2.2.2.2.2.2 | exact l9.2.2.2.2.2.2.2.2.2.2.2.2.2.2 | exact l9.2.2.2.2.2.2.2.2.2.2.2.2.2.2.2)) (rfl) (words_0 hn0 (by assumption)))
end
local macro_rules | `(tactic| walk_at "call ref") => `(tactic| (k_here; (with_reducible show wpAny _ _ (call (Value.ref 214) _) _ _ _); k_dflt (refine' tup2_use (c_words _ _ _ _ _ _ _ _ _ _ _ _ _ _ _ ?_) ?_ ?_ ?_ ?_ ?_ ?_ ?_ ?_ ?_; kst_p1; intro D9 t9 u9 c9 h9 tk9 F9 N9 l9; (try simp only [AllLt, and_true] at l9); (try dsimp only); (try k_fold))))
section
local macro_rules | `(tactic| walk_at "compareOp In int ref") => `(tactic| ((fail_if_success (with_reducible show wpAny _ _ _ (PureB _ _) _ _)); refine unhold ?_))
local macro_rules | `(tactic| walk_at "exec Assign cons ListComp") => `(tactic| (k_here; (with_reducible show wpAny _ _ (exec (Stmt.Assign [Expr.Name _ _] (Expr.ListComp _ [⟨Expr.Name _ _, _, _, _⟩] _ _) _) _) _ _ _); k_dflt (refine assign_X (F₀ := by k_asm) (by rfl) (by with_unfolding_all rfl) (by with_unfolding_all rfl) (by decide) (by rfl) (by decide) (by rfl) (by rfl) (by rfl) ?_)))
local macro_rules | `(tactic| walk_at "exec Assign cons ListComp") => `(tactic| (k_here; (with_reducible show wpAny _ _ (exec (Stmt.Assign [Expr.Name _ _] (Expr.ListComp _ [⟨Expr.Tuple _ _ _, _, _, _⟩] _ _) _) _) _ _ _); k_dflt (refine assign_Y (F₀ := by k_asm) (by rfl) (by with_unfolding_all rfl) (by with_unfolding_all rfl) (by decide) (by rfl) (by decide) (by rfl) (by rfl) (by decide) (by rfl) (by rfl) ?_)))
local macro_rules | `(tactic| walk_at "CompEnd") => `(tactic| (refine' ce_tup ?cF ?cN ?cT ?cO trivial ?_; (case cF => assumption); (case cN => assumption); (case cT => assumption); (case cO => assumption)))
local macro_rules | `(tactic| walk_at "eval ListComp") => `(tactic| (k_here; (with_reducible show wpAny _ _ (eval (Expr.ListComp _ [⟨Expr.Tuple _ _ _, _, _, _⟩] _ _) _) _ _ _); k_dflt (refine ListComp_En (_F₀ := by k_asm) (by with_unfolding_all rfl) (by decide) (by rfl) (by decide) (by rfl) (by rfl) (by decide) ?_)))
local macro_rules | `(tactic| walk_at "call type:enumerate") => `(tactic| (k_here; (with_reducible show wpAny _ _ (call (Value.type "enumerate") [Value.ref _]) _ _ _); k_dflt (refine' enum_ZH (by assumption) ?h1 ?hF ?hN ?hm ?hz ?_ ?_; (case h1 => rfl); (case hF => k_asm); (case hN => k_asm); (case hm => k_mem); (case hz => (rw [List.size_toArray, PySem.sizeLine_eq]; omega)))))
set_option maxRecDepth 100000 in
set_option maxHeartbeats 8000000 in
theorem c_orderL (w : World) (p : Program) (loose : List Str) (mean : ExcName → Option Value) (mg mb : Str → Option Value) (news : List (Addr × Obj)) (n a b f : Int) (tn ta tb tf : Tok) (hl0 : 4 ≤ n) (hl1 : n ≤ 6) (ha0 : 0 ≤ a) (ha1 : a < 256) (hb0 : 0 ≤ b) (hb1 : b < 256) :
   Does PySem.Challenge.rw_nz0560_01.row.prog w (KF w.params) p loose mean mg mb 200 3 56 news [.int n tn, .int a ta, .int b tb, .int f tf] (Tup2 news (ordR n a b f) (ordF n a b f)) := by
  w_on
  (have : PySem.Challenge.rw_nz0560_01 = PySem.Challenge.rw_nz0560_01 ∧ KF = KF := by (k_fill; exact ⟨rfl, rfl⟩)); clear this
  unfold Does
  intro dp un gd cn cs ad ccd cl outer A₀ base h₀ L m s Q E B F X N T hk hd hu hret
  refine wpAny_call ?_
  k_dflt (refine' code_defC ?k1 ?k2 ?k3 ?k4 ?k5 ?kA ?kF ?kK ?k6 ?k7 ?k8 ?k9 ?kB ?kD ?_ ?c2 ?c3 ?c4; (case kA => exact rfl); (case kF => exact rfl); (case kK => assumption); (case k1 => k_asm); (case k2 => k_asm); (case k3 => k_asm); (case k4 => k_asm); (case k5 => k_asm); (case k6 => k_is); (case k7 => k_is); (case k8 => ktr_room); (case k9 => exact BindsTo.of_eq rfl); (case kB => exact rfl); (case kD => decide +kernel); (case c2 => exact rfl); (case c3 => exact rfl); (case c4 => exact rfl); k_whole; intro g' L' h' tk' cells' FG' F' N' Y' B' X' T' l1; (replace l1 := allLt_of l1); k_cells Y'; (try simp only [List.cons_append, List.nil_append] at N'); (try dsimp only); (try k_lift B'); (try k_fold))
  k_steps
  unfold Hold
  refine joinB true ?_ ?_
  · k_steps
    all_goals exact PureB.intro (by first | exact any456_f (by assumption) | exact any456_t (by assumption) (by assumption))
  intro tk0
  k_steps
  unfold SrcX
  refine CompSrc.range (n := 8) (by rfl) (by k_asm) (by k_asm) (by assumption) (by first | decide | rfl) (by first | rfl | decide) (by rw [PySem.sizeLine_eq]; decide) ?_
  intro g9
  refine comp_inv (Digs (dg a) (dg b) _) 8 Digs.zero ?_ ?_
  · intro i hi ys nw hG v hv I oI C oC D m₂ h tk E' hC hx F9 N9 off ne
    obtain ⟨t0, rfl⟩ := hv
    have hm1 := hG.2.1 _ (List.Mem.tail _ (List.Mem.head _))
    have hm2 := hG.2.1 _ (List.Mem.tail _ (List.Mem.tail _ (List.Mem.head _)))
    have hm3 := hG.2.1 _ (List.Mem.tail _ (List.Mem.tail _ (List.Mem.tail _ (List.Mem.head _))))
    have q0 : 0 ≤ 0 + (i : Int) := by omega
    have q1 : 0 + (i : Int) < 8 := by omega
    k_steps
    exact hG.step
  · intro ys nw hG
    unfold FinA
    intro D h tk F9 N9 off
    k_steps
    unfold SrcY
    refine LCp.SrcLP.ledger (by rfl) (by k_asm) (by k_asm) (List.Mem.head _) (by rw [List.size_toArray, hG.1, PySem.sizeLine_eq]; decide) ?_
    intro g8
    refine comp_invP (Ints (fun i => KL n (dg a i) (dg b i)) _) _ Ints.zero ?_ ?_
    · intro i hi ys2 nw2 hG2 v hv
      obtain ⟨rfl, hI⟩ := hG2
      rw [List.size_toArray, hG.1] at hi
      obtain ⟨T, t1, u1, n1, e1, e2⟩ := hG.2.2 i hi
      rw [List.getElem?_toArray, e1] at hv
      obtain rfl := Option.some.inj hv
      refine ⟨T, _, _, _, n1, rfl, List.Mem.tail _ e2, rfl, rfl, ?_⟩
      intro I oI C oC D2 m₂ h2 tk2 E' hC hx hx2 F8 N8 off2 ne
      have hm1 := hG.2.1 _ (List.Mem.tail _ (List.Mem.head _))
      have hm2 := hG.2.1 _ (List.Mem.tail _ (List.Mem.tail _ (List.Mem.head _)))
      have hm3 := hG.2.1 _ (List.Mem.tail _ (List.Mem.tail _ (List.Mem.tail _ (List.Mem.head _))))
      have p0 := dg_lo a i
      have p1 := dg_hi a i
      have p2 := dg_lo b i
      have p3 := dg_hi b i
      (try dsimp only at hx hx2)
      generalize hX : dg a i = X at p0 p1 hx
      generalize hY : dg b i = Y at p2 p3 hx2
      k_steps
      refine CompEnd.intro (by assumption) (by assumption) _ (fun _ hp => List.Mem.tail _ hp) off2 (Or.inr ⟨_, List.Mem.head _, rfl, _, rfl⟩) ?_
      refine Ints.step (x := _) ⟨rfl, hI⟩ ?_
      (rw [hX, hY]; rfl)
    · intro ys3 nw3 hG3
      obtain ⟨rfl, hI3⟩ := hG3
      rw [List.size_toArray, hG.1] at hI3
      have hl3 : ys3.length = 8 := by rw [IntsAre.length hI3]; simp
      unfold FinA
      intro D3 h3 tk3 F7 N7 off3
      obtain ⟨ks, hks⟩ : ∃ ks : Nat → Int, ks = fun i => KL n (dg a i) (dg b i) * 2 ^ ((i : Int)).toNat := ⟨_, rfl⟩
      k_steps
      · unfold Hold
        intro h9 i v hv
        rw [List.getElem?_toArray] at hv
        have hi : i < 8 := by
          rcases Nat.lt_or_ge i 8 with q | q
          · exact q
          · rw [List.getElem?_eq_none (by omega)] at hv
            cases hv
        obtain ⟨t9, rfl⟩ := IntsAre.int_at hI3 i v hv
        have e9 : (List.map (fun i => KL n (dg a i) (dg b i)) (List.range 8)).getD i 0 = KL n (dg a i) (dg b i) := by
          rw [List.getD_eq_getElem?_getD, List.getElem?_map, List.getElem?_range hi]
          rfl
        rw [e9]
        have hk9 : ks i = KL n (dg a i) (dg b i) * 2 ^ ((i : Int)).toNat := by rw [hks]
        have hp := KL_01 hl0 hl1 (dg a i) (dg b i)
        generalize KL n (dg a i) (dg b i) = X at hp hk9
        obtain ⟨p0, p1⟩ := hp
        have q0 : 0 ≤ (i : Int) := by omega
        have q1 : (i : Int) < 8 := by omega
        unfold TurnE
        intro C oC m₂ h tk t E' hC hxa hxb F6 N6
        k_steps
        exact EEnd.intro hk9.symm
      · unfold Hold
        intro h9 ys4 hI4
        rw [List.size_toArray, hl3] at hI4
        have hs4 : ((List.range 8).map ks).sum = ordR n a b f := by rw [hks]; exact sumL hl0 hl1 ha0 ha1 hb0 hb1
        generalize hns : (List.range 8).map ks = ns at hI4 hs4
        have hs0 : 0 ≤ ns.sum := by rw [hs4]; exact (ordL_byte hl0 hl1 ha0 ha1 hb0 hb1).1
        have hs1 : ns.sum < 256 := by rw [hs4]; exact (ordL_byte hl0 hl1 ha0 ha1 hb0 hb1).2
        have hm1 := hG.2.1 _ (List.Mem.tail _ (List.Mem.head _))
        have hm2 := hG.2.1 _ (List.Mem.tail _ (List.Mem.tail _ (List.Mem.head _)))
        have hm3 := hG.2.1 _ (List.Mem.tail _ (List.Mem.tail _ (List.Mem.tail _ (List.Mem.head _))))
        unfold FinE
        intro D4 h4 tk4 F5 N5 off4
        k_steps
        all_goals exact hret _ _ _ _ (by k_asm) (news_head (by k_asm) (fun _ hp => by repeat (first | exact hp | exact hG.2.1 _ (List.Mem.tail _ (List.Mem.tail _ (List.Mem.tail _ (List.Mem.tail _ hp)))) | refine List.Mem.tail _ ?_))) (tup2_of (by (rename _ ∧ _ => l9); first | exact allLt_sub l9.2.2.2 (fun _ hp => hG.2.1 _ (List.Mem.tail _ (List.Mem.tail _ (List.Mem.tail _ (List.Mem.tail _ hp))))) | exact allLt_sub l9.2.2.2.2 (fun _ hp => hG.2.1 _ (List.Mem.tail _ (List.Mem.tail _ (List.Mem.tail _ (List.Mem.tail _ hp))))) | exact allLt_sub l9.2.2.2.2.2 (fun _ hp => hG.2.1 _ (List.Mem.tail _ (List.Mem.tail _ (List.Mem.tail _ (List.Mem.tail _ hp))))) | exact allLt_sub l9.2.2.2.2.2.2 (fun _ hp => hG.2.1 _ (List.Mem.tail _ (List.Mem.tail _ (List.Mem.tail _ (List.Mem.tail _ hp))))) | exact allLt_sub l9.2.2.2.2.2.2.2 (fun _ hp => hG.2.1 _ (List.Mem.tail _ (List.Mem.tail _ (List.Mem.tail _ (List.Mem.tail _ hp))))) | exact allLt_sub l9.2.2.2.2.2.2.2.2 (fun _ hp => hG.2.1 _ (List.Mem.tail _ (List.Mem.tail _ (List.Mem.tail _ (List.Mem.tail _ hp))))) | exact allLt_sub l9.2.2.2.2.2.2.2.2.2 (fun _ hp => hG.2.1 _ (List.Mem.tail _ (List.Mem.tail _ (List.Mem.tail _ (List.Mem.tail _ hp))))) | exact allLt_sub l9.2.2.2.2.2.2.2.2.2.2 (fun _ hp => hG.2.1 _ (List.Mem.tail _ (List.Mem.tail _ (List.Mem.tail _ (List.Mem.tail _ hp))))) | exact allLt_sub l9.2.2.2.2.2.2.2.2.2.2.2 (fun _ hp => hG.2.1 _ (List.Mem.tail _ (List.Mem.tail _ (List.Mem.tail _ (List.Mem.tail _ hp)))))) hs4 (by rw [hs4]; exact ordL_f hl0 hl1))
end
section
local macro_rules | `(tactic| walk_at "compareOp In int ref") => `(tactic| ((fail_if_success (with_reducible show wpAny _ _ _ (PureB _ _) _ _)); refine unhold ?_))
local macro_rules | `(tactic| walk_at "eval IfExp") => `(tactic| ((fail_if_success (with_reducible show wpAny _ _ _ (PureI _ _) _ _)); (fail_if_success (with_reducible show wpAny _ _ _ (PureIH _ _ _ _ _ _) _ _)); refine unhold ?_))
set_option maxRecDepth 100000 in
set_option maxHeartbeats 8000000 in
theorem c_orderS (w : World) (p : Program) (loose : List Str) (mean : ExcName → Option Value) (mg mb : Str → Option Value) (news : List (Addr × Obj)) (n a b f : Int) (tn ta tb tf : Tok) (hn0 : 0 ≤ n) (hn1 : n < 8) (hn4 : n < 4 ∨ n = 7) :
   Does PySem.Challenge.rw_nz0560_01.row.prog w (KF w.params) p loose mean mg mb 200 3 56 news [.int n tn, .int a ta, .int b tb, .int f tf] (Tup2 news (ordR n a b f) (ordF n a b f)) := by
  w_on
  (have : PySem.Challenge.rw_nz0560_01 = PySem.Challenge.rw_nz0560_01 ∧ KF = KF := by (k_fill; exact ⟨rfl, rfl⟩)); clear this
  unfold Does
  intro dp un gd cn cs ad ccd cl outer A₀ base h₀ L m s Q E B F X N T hk hd hu hret
  refine wpAny_call ?_
  k_dflt (refine' code_defC ?k1 ?k2 ?k3 ?k4 ?k5 ?kA ?kF ?kK ?k6 ?k7 ?k8 ?k9 ?kB ?kD ?_ ?c2 ?c3 ?c4; (case kA => exact rfl); (case kF => exact rfl); (case kK => assumption); (case k1 => k_asm); (case k2 => k_asm); (case k3 => k_asm); (case k4 => k_asm); (case k5 => k_asm); (case k6 => k_is); (case k7 => k_is); (case k8 => ktr_room); (case k9 => exact BindsTo.of_eq rfl); (case kB => exact rfl); (case kD => decide +kernel); (case c2 => exact rfl); (case c3 => exact rfl); (case c4 => exact rfl); k_whole; intro g' L' h' tk' cells' FG' F' N' Y' B' X' T' l1; (replace l1 := allLt_of l1); k_cells Y'; (try simp only [List.cons_append, List.nil_append] at N'); (try dsimp only); (try k_lift B'); (try k_fold))
  k_steps
  unfold Hold
  refine joinB false ?_ ?_
  · k_steps
    all_goals exact PureB.intro (by first | exact any456_f (by assumption) | exact any456_t (by assumption) (by assumption))
  intro tk0
  k_steps
  unfold Hold
  refine joinI (oW n) ?_ ?_
  · k_steps
    all_goals exact PureI.intro (by first | exact (if_pos (by assumption)).symm | exact (if_neg (by assumption)).symm)
  intro t1 tk1
  k_steps
  unfold Hold
  refine joinIH (oC n f) (by k_asm) (by k_asm) ?_ ?_
  · k_steps
    unfold Hold
    refine joinB (decide (n = 1 ∨ n = 3)) ?_ ?_
    · k_steps
      all_goals exact PureB.intro any13
    intro tk2
    k_steps
    all_goals (refine PureIH.intro (by k_asm) (news_tail (by k_asm)) ?_; first | exact oC_t (by assumption) | exact oC_f (by assumption))
  intro t3 h3 tk3 F3 N3
  have hw0 := oW_lo n
  have hw1 := oW_hi n
  k_steps
  all_goals first
    | exact hret _ _ _ _ (by k_asm) (news_head (by k_asm) (fun _ hp => by repeat (first | exact hp | refine List.Mem.tail _ ?_))) (tup2_of (by first | assumption | exact allLt_of (by assumption) | exact ltN (by assumption) (fun _ hp => by repeat (first | exact hp | refine List.Mem.tail _ ?_)) | ((rename _ ∧ _ => l9); first | exact l9.2 | exact l9.2.2 | exact l9.2.2.2 | exact l9.2.2.2.2 | exact l9.2.2.2.2.2 | exact l9.2.2.2.2.2.2 | exact l9.2.2.2.2.2.2.2 | exact l9.2.2.2.2.2.2.2.2 | exact l9.2.2.2.2.2.2.2.2.2 | exact l9.2.2.2.2.2.2.2.2.2.2 | exact l9.2.2.2.2.2.2.2.2.2.2.2 | exact l9.2.2.2.2.2.2.2.2.2.2.2.2 | exact l9.2.2.2.2.2.2.2.2.2.2.2.2.2 | exact l9.2.2.2.2.2.2.2.2.2.2.2.2.2.2 | exact l9.2.2.2.2.2.2.2.2.2.2.2.2.2.2.2)) (ordS7_r (by assumption)) (ordS7_f (by assumption)))
    | exact hret _ _ _ _ (by k_asm) (news_head (by k_asm) (fun _ hp => by repeat (first | exact hp | refine List.Mem.tail _ ?_))) (tup2_of (by first | assumption | exact allLt_of (by assumption) | exact ltN (by assumption) (fun _ hp => by repeat (first | exact hp | refine List.Mem.tail _ ?_)) | ((rename _ ∧ _ => l9); first | exact l9.2 | exact l9.2.2 | exact l9.2.2.2 | exact l9.2.2.2.2 | exact l9.2.2.2.2.2 | exact l9.2.2.2.2.2.2 | exact l9.2.2.2.2.2.2.2 | exact l9.2.2.2.2.2.2.2.2 | exact l9.2.2.2.2.2.2.2.2.2 | exact l9.2.2.2.2.2.2.2.2.2.2 | exact l9.2.2.2.2.2.2.2.2.2.2.2 | exact l9.2.2.2.2.2.2.2.2.2.2.2.2 | exact l9.2.2.2.2.2.2.2.2.2.2.2.2.2 | exact l9.2.2.2.2.2.2.2.2.2.2.2.2.2.2 | exact l9.2.2.2.2.2.2.2.2.2.2.2.2.2.2.2)) (ordS_r hn0 hn1 hn4 (by assumption)) (ordS_f hn0 hn1 hn4 (by assumption)))
end
theorem c_order (w : World) (p : Program) (loose : List Str) (mean : ExcName → Option Value) (mg mb : Str → Option Value) (news : List (Addr × Obj)) (n a b f : Int) (tn ta tb tf : Tok) (hn0 : 0 ≤ n) (hn1 : n < 8) (ha0 : 0 ≤ a) (ha1 : a < 256) (hb0 : 0 ≤ b) (hb1 : b < 256) :
   Does PySem.Challenge.rw_nz0560_01.row.prog w (KF w.params) p loose mean mg mb 200 3 56 news [.int n tn, .int a ta, .int b tb, .int f tf] (Tup2 news (ordR n a b f) (ordF n a b f)) := by
  by_cases h : n < 4 ∨ n = 7
  · exact c_orderS w p loose mean mg mb news n a b f tn ta tb tf hn0 hn1 h
  · exact c_orderL w p loose mean mg mb news n a b f tn ta tb tf (by omega) (by omega) ha0 ha1 hb0 hb1
local macro_rules | `(tactic| walk_at "call ref") => `(tactic| (k_here; (with_reducible show wpAny _ _ (call (Value.ref 200) _) _ _ _); k_dflt (refine' tup2_use (c_order _ _ _ _ _ _ _ _ _ _ _ _ _ _ _ ?_ ?_ ?_ ?_ ?_ ?_) ?_ ?_ ?_ ?_ ?_ ?_ ?_ ?_ ?_; kst_p1; intro D9 t9 u9 c9 h9 tk9 F9 N9 l9; (try simp only [AllLt, and_true] at l9); (try dsimp only); (try k_fold))))
theorem c_wordsK0 (w : World) (p : Program) (loose : List Str) (mean : ExcName → Option Value) (mg mb : Str → Option Value) (news : List (Addr × Obj)) (x y f n : Int) (tx ty tf tk : Tok) (hn : n = 0) :
   Does PySem.Challenge.rw_nz0560_01.row.prog w (KF w.params) p loose mean mg mb 214 3 40 news [.int x tx, .int y ty, .int f tf, .int n tk] (Tup2 news (aR 65536 1 x y 0) (a16F x y f)) := by
  subst hn
  exact c_words w p loose mean mg mb news x y f _ tx ty tf tk (by decide)
theorem c_wordsK1 (w : World) (p : Program) (loose : List Str) (mean : ExcName → Option Value) (mg mb : Str → Option Value) (news : List (Addr × Obj)) (x y f n : Int) (tx ty tf tk : Tok) (hn : n = 1) :
   Does PySem.Challenge.rw_nz0560_01.row.prog w (KF w.params) p loose mean mg mb 214 3 40 news [.int x tx, .int y ty, .int f tf, .int n tk] (Tup2 news (aR 65536 1 x y (f.fmod 2)) (wdF 1 x y (f.fmod 2))) := by
  subst hn
  exact c_words w p loose mean mg mb news x y f _ tx ty tf tk (by decide)
theorem c_wordsK2 (w : World) (p : Program) (loose : List Str) (mean : ExcName → Option Value) (mg mb : Str → Option Value) (news : List (Addr × Obj)) (x y f n : Int) (tx ty tf tk : Tok) (hn : n = 2) :
   Does PySem.Challenge.rw_nz0560_01.row.prog w (KF w.params) p loose mean mg mb 214 3 40 news [.int x tx, .int y ty, .int f tf, .int n tk] (Tup2 news (aR 65536 (-1) x y (f.fmod 2)) (wdF (-1) x y (f.fmod 2))) := by
  subst hn
  exact c_words w p loose mean mg mb news x y f _ tx ty tf tk (by decide)
theorem c_order2 (w : World) (p : Program) (loose : List Str) (mean : ExcName → Option Value) (mg mb : Str → Option Value) (news : List (Addr × Obj)) (a b f : Int) (tn ta tb tf : Tok) (ha0 : 0 ≤ a) (ha1 : a < 256) (hb0 : 0 ≤ b) (hb1 : b < 256) :
   Does PySem.Challenge.rw_nz0560_01.row.prog w (KF w.params) p loose mean mg mb 200 3 56 news [.int 2 tn, .int a ta, .int b tb, .int f tf] (Tup2 news (aR 256 (-1) a b 0) (oF (-1) a b 0)) :=
  c_order w p loose mean mg mb news 2 a b f tn ta tb tf (by decide) (by decide) ha0 ha1 hb0 hb1
local macro_rules | `(tactic| walk_at "call ref") => `(tactic| (k_here; (with_reducible show wpAny _ _ (call (Value.ref 214) _) _ _ _); k_dflt (refine' tup2_use (c_wordsK0 _ _ _ _ _ _ _ _ _ _ _ _ _ _ _ ?_) ?_ ?_ ?_ ?_ ?_ ?_ ?_ ?_ ?_; kst_p1; intro D9 t9 u9 c9 h9 tk9 F9 N9 l9; (try simp only [AllLt, and_true] at l9); (try dsimp only); (try k_fold))))
local macro_rules | `(tactic| walk_at "call ref") => `(tactic| (k_here; (with_reducible show wpAny _ _ (call (Value.ref 214) _) _ _ _); k_dflt (refine' tup2_use (c_wordsK1 _ _ _ _ _ _ _ _ _ _ _ _ _ _ _ ?_) ?_ ?_ ?_ ?_ ?_ ?_ ?_ ?_ ?_; kst_p1; intro D9 t9 u9 c9 h9 tk9 F9 N9 l9; (try simp only [AllLt, and_true] at l9); (try dsimp only); (try k_fold))))
local macro_rules | `(tactic| walk_at "call ref") => `(tactic| (k_here; (with_reducible show wpAny _ _ (call (Value.ref 214) _) _ _ _); k_dflt (refine' tup2_use (c_wordsK2 _ _ _ _ _ _ _ _ _ _ _ _ _ _ _ ?_) ?_ ?_ ?_ ?_ ?_ ?_ ?_ ?_ ?_; kst_p1; intro D9 t9 u9 c9 h9 tk9 F9 N9 l9; (try simp only [AllLt, and_true] at l9); (try dsimp only); (try k_fold))))
local macro_rules | `(tactic| walk_at "call ref") => `(tactic| (k_here; (with_reducible show wpAny _ _ (call (Value.ref 200) [Value.int 2 _, _, _, _]) _ _ _); k_dflt (refine' tup2_use (c_order2 _ _ _ _ _ _ _ _ _ _ _ _ _ _ ?_ ?_ ?_ ?_) ?_ ?_ ?_ ?_ ?_ ?_ ?_ ?_ ?_; kst_p1; intro D9 t9 u9 c9 h9 tk9 F9 N9 l9; (try simp only [AllLt, and_true] at l9); (try dsimp only); (try k_fold))))
end Mine
end
section
open PySem PySem.W PySem.Spec PySem.Calls PyProof.Rows PyProof.Rows.LCg PyProof.Rows.LCt
open Mine
local macro_rules | `(tactic| ktr_rel) => `(tactic| first | assumption | omega | decide | exact and255_byte.1 | exact and255_byte.2 | exact (and_byte (by assumption) (by assumption)).1 | exact (and_byte (by assumption) (by assumption)).2 | exact (or_byte (by assumption) (by assumption) (by assumption) (by assumption)).1 | exact (or_byte (by assumption) (by assumption) (by assumption) (by assumption)).2 | exact (xor_byte (by assumption) (by assumption) (by assumption) (by assumption)).1 | exact (xor_byte (by assumption) (by assumption) (by assumption) (by assumption)).2 | exact and65535_word.1 | exact and65535_word.2 | exact and1_lo _ | exact and1_hi _ | exact mod2_lo _ | exact mod2_hi _ | exact aR_lo .. | exact aR_hi .. | exact fm_lo _ | exact fm_hi _)
local macro_rules | `(tactic| kst_p1) => `(tactic| ((all_goals first | ((with_reducible show Below _ _ _ _); k_asm) | ((with_reducible show Fr _ _ _ _); k_asm) | ((with_reducible show Frag.In _ _); k_asm) | ((with_reducible show News _ _ _ _); k_asm) | ((with_reducible show Top _ _ _ _ _ _); k_asm) | ((with_reducible show _ = ScopeKind.function); first | exact rfl | assumption) | ((with_reducible show _ < recursionLimit); ktr_room) | ((with_reducible show _ < cLine); ktr_units) | skip); (all_goals first | ((with_reducible show _ ≤ _); ktr_rel) | ((with_reducible show _ < _); ktr_rel) | ((with_reducible show _ ∈ _); k_mem) | ((with_reducible show (_ : Int) = _); omega) | skip)))
local macro_rules | `(tactic| k_ne) => `(tactic| first | (refine' ne_gt ?h ?m; (case h => assumption); (case m => (repeat first | exact List.Mem.head _ | refine List.Mem.tail _ ?_))) | (refine' ne_lt ?h ?m; (case h => assumption); (case m => (repeat first | exact List.Mem.head _ | refine List.Mem.tail _ ?_))))
local macro_rules | `(tactic| walk_at "call ref") => `(tactic| (k_here; (with_reducible show wpAny _ _ (call (Value.ref 77) _) _ _ _); k_dflt (refine' tup2_use (c_inc8 _ _ _ _ _ _ _ _ _ _ _ ?_ ?_) ?_ ?_ ?_ ?_ ?_ ?_ ?_ ?_ ?_; kst_p1; intro D9 t9 u9 c9 h9 tk9 F9 N9 l9; (try dsimp only); (try k_fold))))
local macro_rules | `(tactic| walk_at "call ref") => `(tactic| (k_here; (with_reducible show wpAny _ _ (call (Value.ref 84) _) _ _ _); k_dflt (refine' tup2_use (c_dec8 _ _ _ _ _ _ _ _ _ _ _ ?_ ?_) ?_ ?_ ?_ ?_ ?_ ?_ ?_ ?_ ?_; kst_p1; intro D9 t9 u9 c9 h9 tk9 F9 N9 l9; (try dsimp only); (try k_fold))))
local macro_rules | `(tactic| walk_at "call ref") => `(tactic| (k_here; (with_reducible show wpAny _ _ (call (Value.ref 91) _) _ _ _); k_dflt (refine' tup2_use (c_neg _ _ _ _ _ _ _ _ _ ?_ ?_) ?_ ?_ ?_ ?_ ?_ ?_ ?_ ?_ ?_; kst_p1; intro D9 t9 u9 c9 h9 tk9 F9 N9 l9; (try dsimp only); (try k_fold))))
local macro_rules | `(tactic| walk_at "call ref") => `(tactic| (k_here; (with_reducible show wpAny _ _ (call (Value.ref 98) _) _ _ _); k_dflt (refine' tup2_use (c_by_number _ _ _ _ _ _ _ _ _ _ _ _ _ _ _ ?_ ?_ ?_ ?_ ?_ ?_) ?_ ?_ ?_ ?_ ?_ ?_ ?_ ?_ ?_; kst_p1; intro D9 t9 u9 c9 h9 tk9 F9 N9 l9; (try dsimp only); (try k_fold))))
local macro_rules | `(tactic| walk_at "call ref") => `(tactic| (k_here; (with_reducible show wpAny _ _ (call (Value.ref 112) _) _ _ _); k_dflt (refine' tup2_use (c_add16 _ _ _ _ _ _ _ _ _ _ _ _ _ ?_ ?_ ?_ ?_) ?_ ?_ ?_ ?_ ?_ ?_ ?_ ?_ ?_; kst_p1; intro D9 t9 u9 c9 h9 tk9 F9 N9 l9; (try dsimp only); (try k_fold))))
local macro_rules | `(tactic| walk_at "call ref") => `(tactic| (k_here; (with_reducible show wpAny _ _ (call (Value.ref 126) _) _ _ _); k_dflt (refine' tup2_use (c_adc16 _ _ _ _ _ _ _ _ _ _ _ _ _ ?_ ?_ ?_ ?_ ?_ ?_) ?_ ?_ ?_ ?_ ?_ ?_ ?_ ?_ ?_; kst_p1; intro D9 t9 u9 c9 h9 tk9 F9 N9 l9; (try dsimp only); (try k_fold))))
local macro_rules | `(tactic| walk_at "call ref") => `(tactic| (k_here; (with_reducible show wpAny _ _ (call (Value.ref 133) _) _ _ _); k_dflt (refine' tup2_use (c_sbc16 _ _ _ _ _ _ _ _ _ _ _ _ _ ?_ ?_ ?_ ?_ ?_ ?_) ?_ ?_ ?_ ?_ ?_ ?_ ?_ ?_ ?_; kst_p1; intro D9 t9 u9 c9 h9 tk9 F9 N9 l9; (try dsimp only); (try k_fold))))
local macro_rules | `(tactic| walk_at "call ref") => `(tactic| (k_here; (with_reducible show wpAny _ _ (call (Value.ref 207) _) _ _ _); k_dflt (refine' tup2_use (c_step _ _ _ _ _ _ _ _ _ _ _ _ _ ?_ ?_) ?_ ?_ ?_ ?_ ?_ ?_ ?_ ?_ ?_; kst_p1; intro D9 t9 u9 c9 h9 tk9 F9 N9 l9; (try dsimp only); (try k_fold))))
local macro_rules | `(tactic| walk_at "call ref") => `(tactic| (k_here; (with_reducible show wpAny _ _ (call (Value.ref 200) _) _ _ _); k_dflt (refine' tup2_use (c_order _ _ _ _ _ _ _ _ _ _ _ _ _ _ _ ?_ ?_ ?_ ?_ ?_ ?_) ?_ ?_ ?_ ?_ ?_ ?_ ?_ ?_ ?_; kst_p1; intro D9 t9 u9 c9 h9 tk9 F9 N9 l9; (try dsimp only); (try k_fold))))
local macro_rules | `(tactic| walk_at "call ref") => `(tactic| (k_here; (with_reducible show wpAny _ _ (call (Value.ref 214) _) _ _ _); k_dflt (refine' tup2_use (c_wordsK0 _ _ _ _ _ _ _ _ _ _ _ _ _ _ _ ?_) ?_ ?_ ?_ ?_ ?_ ?_ ?_ ?_ ?_; kst_p1; intro D9 t9 u9 c9 h9 tk9 F9 N9 l9; (try dsimp only); (try k_fold))))
local macro_rules | `(tactic| walk_at "call ref") => `(tactic| (k_here; (with_reducible show wpAny _ _ (call (Value.ref 214) _) _ _ _); k_dflt (refine' tup2_use (c_wordsK1 _ _ _ _ _ _ _ _ _ _ _ _ _ _ _ ?_) ?_ ?_ ?_ ?_ ?_ ?_ ?_ ?_ ?_; kst_p1; intro D9 t9 u9 c9 h9 tk9 F9 N9 l9; (try dsimp only); (try k_fold))))
local macro_rules | `(tactic| walk_at "call ref") => `(tactic| (k_here; (with_reducible show wpAny _ _ (call (Value.ref 214) _) _ _ _); k_dflt (refine' tup2_use (c_wordsK2 _ _ _ _ _ _ _ _ _ _ _ _ _ _ _ ?_) ?_ ?_ ?_ ?_ ?_ ?_ ?_ ?_ ?_; kst_p1; intro D9 t9 u9 c9 h9 tk9 F9 N9 l9; (try dsimp only); (try k_fold))))
local macro_rules | `(tactic| walk_at "call ref") => `(tactic| (k_here; (with_reducible show wpAny _ _ (call (Value.ref 200) [Value.int 2 _, _, _, _]) _ _ _); k_dflt (refine' tup2_use (c_order2 _ _ _ _ _ _ _ _ _ _ _ _ _ _ ?_ ?_ ?_ ?_) ?_ ?_ ?_ ?_ ?_ ?_ ?_ ?_ ?_; kst_p1; intro D9 t9 u9 c9 h9 tk9 F9 N9 l9; (try dsimp only); (try k_fold))))
local macro_rules | `(tactic| ktr_rel) => `(tactic| first | exact len32 _ _ | exact seed_lo _ | exact seed_hi _ | exact Int.le_refl _ | exact Int.natCast_nonneg _)
local macro_rules | `(tactic| kst_p2) => `(tactic| ((all_goals first | ((with_reducible show News _ _ _ _); k_asm) | skip); (all_goals first | ((with_reducible show UpdF _ _ _ _); k_updF) | skip); (all_goals first | ((with_reducible show _ ∈ _); k_mem) | skip); (all_goals first | ((with_reducible show IntsAre _ _); assumption) | ((with_reducible show @Ne Nat _ _); first | assumption | omega | k_ne) | skip); kst_p1))
local macro_rules | `(tactic| walk_at "call ref") => `(tactic| (k_here; (with_reducible show wpAny _ _ (call (Value.ref 152) [Value.ref _]) _ _ _); k_dflt (refine' octet_use ?_ ?_ ?_ ?_ ?_ ?_ ?_ ?_ ?_ ?_ ?_ ?_ ?_ ?_ ?_ ?_ ?_ ?_; kst_p2; intro x9 t9 k9 sd9 tk9 ts9 c9 h9 tks9 b1 b2 b3 b4 b5 b6 F9 N9; (try dsimp only at N9); (try dsimp only); (try k_fold))))
local macro_rules | `(tactic| walk_at "call ref") => `(tactic| (k_here; (with_reducible show wpAny _ _ (call (Value.ref 159) [Value.ref _]) _ _ _); k_dflt (refine' word_use ?_ ?_ ?_ ?_ ?_ ?_ ?_ ?_ ?_ ?_ ?_ ?_ ?_ ?_ ?_ ?_ ?_ ?_; kst_p2; intro x9 t9 k9 sd9 tk9 ts9 c9 h9 tks9 b1 b2 b3 b4 b5 b6 F9 N9; (try dsimp only at N9); (try dsimp only); (try k_fold))))
local macro_rules | `(tactic| walk_at "call ref") => `(tactic| (k_here; (with_reducible show wpAny _ _ (call (Value.ref 145) [Value.ref _, Value.int _ _]) _ _ _); k_dflt (refine' take_use ?_ ?_ ?_ ?_ ?_ ?_ ?_ ?_ ?_ ?_ ?_ ?_ ?_ ?_ ?_ ?_ ?_ ?_ ?_ ?_; kst_p2; intro x9 t9 k9 sd9 tk9 ts9 c9 h9 tks9 b1 b2 b3 b4 b5 b6 F9 N9; (try dsimp only at N9); (try dsimp only); (try k_fold))))
local macro_rules | `(tactic| walk_at "eval ListComp") => `(tactic| (k_here; (with_reducible show wpAny _ _ (eval (Expr.ListComp (Expr.Call _ _ _ _) [⟨Expr.Name _ _, _, _, _⟩] _ _) _) _ _ _); k_dflt (refine ListComp_X (F₀ := by k_asm) (by with_unfolding_all rfl) (by decide) (by rfl) (by decide) (by rfl) ?_)))
local macro_rules | `(tactic| walk_at "RangeRest") => `(tactic| (refine unhold ?_))
local macro_rules | `(tactic| walk_at "CompEnd") => `(tactic| ((with_reducible show CompEnd _ _ _ _ _ _ _ _ _ _ (fun _ => True) _ _ _); refine unhold ?_))
local macro_rules | `(tactic| walk_at "UnrEnd") => `(tactic| (refine unhold ?_))
set_option maxRecDepth 100000 in
set_option maxHeartbeats 8000000 in
theorem PySem.Challenge.cw_nz0560_01_holds : PySem.Challenge.rw_nz0560_01.Holds := by
  w_on
  refine holds_law Mine.said fun said' => ?_
  refine' holds_open (q := Mine.view) (loose := [PySem.Str.ofString "KEPT"]) (XP := XL Mine.view Mine.lv) (YP := Hook.says (kHook Mine.KF Mine.asF Mine.hks)) Mine.left (Hook.of (kHook Mine.KF Mine.asF Mine.hks)) (Hook.keeps (kHook Mine.KF Mine.asF Mine.hks)) (fun s e => xl_of s (Bool.and_eq_true_iff.mp e).1) XL.keeps (by rfl) (by rfl) (by rfl) (fun s e => recFacts_of (Bool.and_eq_true_iff.mp e).2) (by rfl) said' (by decide +kernel) ⟨rfl, rfl, rfl, rfl, rfl, by decide +kernel⟩ ?hw ?hc
  case hw => w_witness2
  w_strict (
    k_go0; (all_goals try k_fold)
    k_steps
    unfold Hold
    refine' range_inv (GO _ _ _ _ _ _ _ _) ?g0 ?turn ?done
    case g0 =>
      refine' GO.mk rfl (by rfl) ?e1 ?e2 ?e3 ?e4 ?e5 ?e6 ?e7
      case e1 => assumption
      case e2 => assumption
      case e3 => assumption
      case e4 => exact Int.le_refl _
      case e5 => exact Int.natCast_nonneg _
      case e6 => exact seed_lo _
      case e7 => exact seed_hi _
    case turn =>
      intro i hi m nw hG t h tk F9 N9
      obtain ⟨cn, k, sd, tk5, ts, c, o1, o2, o3, v1, v2, v3, u, hk0, hk1, hs0, hs1, hd1, hd2, hd3, rfl, rfl⟩ := hG
      k_steps
      unfold Hold
      refine range_inv (GI (Str.ofString "number") _ _) GI.zero ?_ ?_
      · intro i2 hi2 m2 nw2 hG2 t2 h2 tk2 F8 N8
        obtain ⟨rfl, u2, rfl⟩ := hG2
        k_steps
        unfold Hold
        exact UnrEnd.intro (by assumption) (by assumption) _ (fun _ hp => List.Mem.tail _ (List.Mem.tail _ hp)) (off_of (by simp only [AllLt, and_true]; omega)) (GI.step ⟨rfl, u2, rfl⟩)
      · intro m2 nw2 hG2 h2 tk2 F8 N8
        obtain ⟨rfl, u2, rfl⟩ := hG2
        k_steps
        unfold SrcX
        refine CompSrc.range (n := 3) (by rfl) (by k_asm) (by k_asm) (by assumption) (by first | decide | rfl) (by first | rfl | decide) (by rw [PySem.sizeLine_eq]; decide) ?_
        intro g9
        refine CompRest.succ ?_
        intro v I oI C oC D3 m₂ h3 tk3 E' hv hC hx F7 N7 off3 ne3
        obtain ⟨t7, rfl⟩ := hv
        k_steps
        unfold Hold
        refine ce_tup (by assumption) (by assumption) (by assumption) off3 trivial ?_
        refine CompRest.succ ?_
        intro v I oI C oC D3 m₂ h3 tk3 E' hv hC hx F7 N7 off3 ne3
        obtain ⟨t7, rfl⟩ := hv
        k_steps
        unfold Hold
        refine ce_tup (by assumption) (by assumption) (by assumption) off3 trivial ?_
        refine CompRest.succ ?_
        intro v I oI C oC D3 m₂ h3 tk3 E' hv hC hx F7 N7 off3 ne3
        obtain ⟨t7, rfl⟩ := hv
        k_steps
        unfold Hold
        refine ce_tup (by assumption) (by assumption) (by assumption) off3 trivial ?_
        refine CompRest.zero ?_
        unfold FinE
        intro D4 h4 tk4 F6 N6 off4
        k_steps
        unfold Hold
        refine' UnrEnd.intro (by assumption) (by assumption) [(_, dealO _ _ _ _ _ _), (_, numO _ _), (_, _), (_, _), (_, _), (_, _)] ?sub ?off (GO.mk rfl (by rfl) ?e1 ?e2 ?e3 ?e4 ?e5 ?e6 ?e7)
        case sub =>
          repeat (refine' List.forall_mem_cons.mpr ⟨?_, ?_⟩; (repeat first | exact List.Mem.head _ | refine List.Mem.tail _ ?_))
          exact List.forall_mem_nil _
        case off => exact off_of (by simp only [AllLt, and_true]; omega)
        case e1 => assumption
        case e2 => assumption
        case e3 => assumption
        case e4 => assumption
        case e5 => omega
        case e6 => assumption
        case e7 => assumption
    case done =>
      intro m nw hG h tk F9 N9
      obtain ⟨cn, k, sd, tk5, ts, c, o1, o2, o3, v1, v2, v3, u, hk0, hk1, hs0, hs1, hd1, hd2, hd3, rfl, rfl⟩ := hG
      k_steps
  )
end
