import PyProof.Rows.All
import Wide.All
import OpenK.AllK
import Wide.FinOn
import Lean
import PySem.Challenge.RW_sj0179_01
open PySem PySem.W PyProof.Rows
set_option Elab.async false
set_option rowWalk.seconds 0
set_option maxRecDepth 100000
set_option maxHeartbeats 8000000
namespace Mine
noncomputable def hd.heap_39 : Params → Frag := by
  refine fun P => (nat_lit 2, { cls := .none, data := .dict #[] }) ::
    (nat_lit 3, { cls := .type "dict", data := .dict #[{ hash := PyData.keyHash P (Str.ofString "__name__"), key := .str (Str.ofString "__name__") 165, val := .str (Str.ofString "law_sj0179_01") 383 }, { hash := PyData.keyHash P (Str.ofString "__doc__"), key := .str (Str.ofString "__doc__") 166, val := .none }, { hash := PyData.keyHash P (Str.ofString "__package__"), key := .str (Str.ofString "__package__") 167, val := .none }, { hash := PyData.keyHash P (Str.ofString "__loader__"), key := .str (Str.ofString "__loader__") 168, val := .builtin "__main__.__loader__#opaque" }, { hash := PyData.keyHash P (Str.ofString "__spec__"), key := .str (Str.ofString "__spec__") 169, val := .none }, { hash := PyData.keyHash P (Str.ofString "__annotations__"), key := .str (Str.ofString "__annotations__") 170, val := .ref 6 }, { hash := PyData.keyHash P (Str.ofString "__builtins__"), key := .str (Str.ofString "__builtins__") 171, val := .ref 4 }, { hash := PyData.keyHash P (Str.ofString "__file__"), key := .str (Str.ofString "__file__") 173, val := .str (Str.ofString "/claim/cut.py") 172 }, { hash := PyData.keyHash P (Str.ofString "__cached__"), key := .str (Str.ofString "__cached__") 174, val := .none }, { hash := PyData.keyHash P (Str.ofString "SET"), key := .str (Str.ofString "SET") 190, val := .int 1 189 }, { hash := PyData.keyHash P (Str.ofString "SEQUENCE"), key := .str (Str.ofString "SEQUENCE") 192, val := .int 2 191 }, { hash := PyData.keyHash P (Str.ofString "MOST_IN_SEGMENT"), key := .str (Str.ofString "MOST_IN_SEGMENT") 194, val := .int 255 193 }, { hash := PyData.keyHash P (Str.ofString "path_length"), key := .str (Str.ofString "path_length") 204, val := .ref 21 }, { hash := PyData.keyHash P (Str.ofString "neighbour_as"), key := .str (Str.ofString "neighbour_as") 213, val := .ref 28 }, { hash := PyData.keyHash P (Str.ofString "path_has"), key := .str (Str.ofString "path_has") 223, val := .ref 35 }, { hash := PyData.keyHash P (Str.ofString "put_ahead"), key := .str (Str.ofString "put_ahead") 233, val := .ref 42 }, { hash := PyData.keyHash P (Str.ofString "prepended"), key := .str (Str.ofString "prepended") 243, val := .ref 49 }, { hash := PyData.keyHash P (Str.ofString "WIRE_BITS"), key := .str (Str.ofString "WIRE_BITS") 247, val := .int 32 246 }, { hash := PyData.keyHash P (Str.ofString "mask_of"), key := .str (Str.ofString "mask_of") 255, val := .ref 56 }, { hash := PyData.keyHash P (Str.ofString "holds_address"), key := .str (Str.ofString "holds_address") 264, val := .ref 63 }, { hash := PyData.keyHash P (Str.ofString "covers"), key := .str (Str.ofString "covers") 273, val := .ref 70 }, { hash := PyData.keyHash P (Str.ofString "FIELDS"), key := .str (Str.ofString "FIELDS") 291, val := .ref 71 }, { hash := PyData.keyHash P (Str.ofString "ON"), key := .str (Str.ofString "ON") 293, val := .int 0 292 }, { hash := PyData.keyHash P (Str.ofString "ACCEPTED"), key := .str (Str.ofString "ACCEPTED") 295, val := .int 1 294 }, { hash := PyData.keyHash P (Str.ofString "REJECTED"), key := .str (Str.ofString "REJECTED") 297, val := .int 2 296 }, { hash := PyData.keyHash P (Str.ofString "NEXT"), key := .str (Str.ofString "NEXT") 299, val := .int 3 298 }, { hash := PyData.keyHash P (Str.ofString "ENDS"), key := .str (Str.ofString "ENDS") 306, val := .ref 72 }, { hash := PyData.keyHash P (Str.ofString "compares"), key := .str (Str.ofString "compares") 315, val := .ref 79 }, { hash := PyData.keyHash P (Str.ofString "field_number"), key := .str (Str.ofString "field_number") 325, val := .ref 86 }, { hash := PyData.keyHash P (Str.ofString "condition_holds"), key := .str (Str.ofString "condition_holds") 336, val := .ref 93 }, { hash := PyData.keyHash P (Str.ofString "with_communities"), key := .str (Str.ofString "with_communities") 342, val := .ref 98 }, { hash := PyData.keyHash P (Str.ofString "with_field"), key := .str (Str.ofString "with_field") 348, val := .ref 103 }, { hash := PyData.keyHash P (Str.ofString "changed_route"), key := .str (Str.ofString "changed_route") 354, val := .ref 108 }, { hash := PyData.keyHash P (Str.ofString "run_statements"), key := .str (Str.ofString "run_statements") 367, val := .ref 115 }, { hash := PyData.keyHash P (Str.ofString "run_policy"), key := .str (Str.ofString "run_policy") 382, val := .ref 122 }, { hash := PyData.keyHash P (Str.ofString "_law_names"), key := .str (Str.ofString "_law_names") 389, val := .ref 123 }, { hash := PyData.keyHash P (Str.ofString "_law_draw"), key := .str (Str.ofString "_law_draw") 398, val := .ref 130 }, { hash := PyData.keyHash P (Str.ofString "_law_asked"), key := .str (Str.ofString "_law_asked") 409, val := .ref 137 }, { hash := PyData.keyHash P (Str.ofString "_law_statement"), key := .str (Str.ofString "_law_statement") 421, val := .ref 144 }, { hash := PyData.keyHash P (Str.ofString "_law_policy"), key := .str (Str.ofString "_law_policy") 432, val := .ref 151 }, { hash := PyData.keyHash P (Str.ofString "_law_route"), key := .str (Str.ofString "_law_route") 438, val := .ref 156 }, { hash := PyData.keyHash P (Str.ofString "_law_due"), key := .str (Str.ofString "_law_due") 444, val := .ref 161 }, { hash := PyData.keyHash P (Str.ofString "law"), key := .str (Str.ofString "law") 450, val := .ref 166 }] 43 }) ::
    (nat_lit 20, { cls := .type "code", data := .fields #[.str (Str.ofString "path_length") 195, .str (Str.ofString "path_length") 196, .str (Str.ofString "/claim/cut.py") 197, .int 5 0, .int 1 0, .int 0 0, .int 0 0, .int 3 0, .ref 15, .bool true, .int 181 0, .ref 16, .none, .ref 17, .ref 18, .ref 19, .int 202 0, .int 5 0, .str (Str.ofString "/claim/cut.py") 203] }) ::
    (nat_lit 21, ?f21) ::
    (nat_lit 27, { cls := .type "code", data := .fields #[.str (Str.ofString "neighbour_as") 205, .str (Str.ofString "neighbour_as") 206, .str (Str.ofString "/claim/cut.py") 207, .int 13 0, .int 1 0, .int 0 0, .int 0 0, .int 3 0, .ref 22, .bool true, .int 181 0, .ref 23, .none, .ref 24, .ref 25, .ref 26, .int 211 0, .int 13 0, .str (Str.ofString "/claim/cut.py") 212] }) ::
    (nat_lit 28, ?f28) ::
    (nat_lit 34, { cls := .type "code", data := .fields #[.str (Str.ofString "path_has") 214, .str (Str.ofString "path_has") 215, .str (Str.ofString "/claim/cut.py") 216, .int 20 0, .int 2 0, .int 0 0, .int 0 0, .int 3 0, .ref 29, .bool true, .int 181 0, .ref 30, .none, .ref 31, .ref 32, .ref 33, .int 221 0, .int 20 0, .str (Str.ofString "/claim/cut.py") 222] }) ::
    (nat_lit 35, ?f35) ::
    (nat_lit 55, { cls := .type "code", data := .fields #[.str (Str.ofString "mask_of") 248, .str (Str.ofString "mask_of") 249, .str (Str.ofString "/claim/cut.py") 250, .int 35 0, .int 2 0, .int 0 0, .int 0 0, .int 3 0, .ref 50, .bool true, .int 181 0, .ref 51, .none, .ref 52, .ref 53, .ref 54, .int 253 0, .int 35 0, .str (Str.ofString "/claim/cut.py") 254] }) ::
    (nat_lit 56, ?f56) ::
    (nat_lit 62, { cls := .type "code", data := .fields #[.str (Str.ofString "holds_address") 256, .str (Str.ofString "holds_address") 257, .str (Str.ofString "/claim/cut.py") 258, .int 37 0, .int 3 0, .int 0 0, .int 0 0, .int 3 0, .ref 57, .bool true, .int 181 0, .ref 58, .none, .ref 59, .ref 60, .ref 61, .int 262 0, .int 37 0, .str (Str.ofString "/claim/cut.py") 263] }) ::
    (nat_lit 63, ?f63) ::
    (nat_lit 69, { cls := .type "code", data := .fields #[.str (Str.ofString "covers") 265, .str (Str.ofString "covers") 266, .str (Str.ofString "/claim/cut.py") 267, .int 39 0, .int 3 0, .int 0 0, .int 0 0, .int 3 0, .ref 64, .bool true, .int 181 0, .ref 65, .none, .ref 66, .ref 67, .ref 68, .int 271 0, .int 39 0, .str (Str.ofString "/claim/cut.py") 272] }) ::
    (nat_lit 70, ?f70) ::
    (nat_lit 71, { cls := .type "dict", data := .dict #[{ hash := PyData.keyHash P (Str.ofString "local-pref"), key := .str (Str.ofString "local-pref") 276, val := .str (Str.ofString "local_pref") 277 }, { hash := PyData.keyHash P (Str.ofString "med"), key := .str (Str.ofString "med") 278, val := .str (Str.ofString "med") 279 }, { hash := PyData.keyHash P (Str.ofString "origin"), key := .str (Str.ofString "origin") 280, val := .str (Str.ofString "origin") 281 }, { hash := PyData.keyHash P (Str.ofString "next-hop"), key := .str (Str.ofString "next-hop") 282, val := .str (Str.ofString "next_hop") 283 }, { hash := PyData.keyHash P (Str.ofString "tag"), key := .str (Str.ofString "tag") 284, val := .str (Str.ofString "tag") 285 }] 5 }) ::
    (nat_lit 72, { cls := .type "dict", data := .dict #[{ hash := PyData.keyHash P (Str.ofString "accept"), key := .str (Str.ofString "accept") 300, val := .int 1 294 }, { hash := PyData.keyHash P (Str.ofString "reject"), key := .str (Str.ofString "reject") 301, val := .int 2 296 }, { hash := PyData.keyHash P (Str.ofString "next"), key := .str (Str.ofString "next") 302, val := .int 3 298 }] 3 }) ::
    (nat_lit 78, { cls := .type "code", data := .fields #[.str (Str.ofString "compares") 307, .str (Str.ofString "compares") 308, .str (Str.ofString "/claim/cut.py") 309, .int 48 0, .int 3 0, .int 0 0, .int 0 0, .int 3 0, .ref 73, .bool true, .int 181 0, .ref 74, .none, .ref 75, .ref 76, .ref 77, .int 313 0, .int 48 0, .str (Str.ofString "/claim/cut.py") 314] }) ::
    (nat_lit 79, ?f79) ::
    (nat_lit 85, { cls := .type "code", data := .fields #[.str (Str.ofString "field_number") 316, .str (Str.ofString "field_number") 317, .str (Str.ofString "/claim/cut.py") 318, .int 58 0, .int 4 0, .int 0 0, .int 0 0, .int 3 0, .ref 80, .bool true, .int 181 0, .ref 81, .none, .ref 82, .ref 83, .ref 84, .int 323 0, .int 58 0, .str (Str.ofString "/claim/cut.py") 324] }) ::
    (nat_lit 86, ?f86) ::
    (nat_lit 92, { cls := .type "code", data := .fields #[.str (Str.ofString "condition_holds") 326, .str (Str.ofString "condition_holds") 327, .str (Str.ofString "/claim/cut.py") 328, .int 66 0, .int 4 0, .int 0 0, .int 0 0, .int 3 0, .ref 87, .bool true, .int 181 0, .ref 88, .none, .ref 89, .ref 90, .ref 91, .int 334 0, .int 66 0, .str (Str.ofString "/claim/cut.py") 335] }) ::
    (nat_lit 93, ?f93) ::
    (nat_lit 97, { cls := .type "code", data := .fields #[.str (Str.ofString "with_communities") 337, .str (Str.ofString "with_communities") 338, .str (Str.ofString "/claim/cut.py") 339, .int 87 0, .int 2 0, .int 0 0, .int 0 0, .int 3 0, .ref 94, .bool true, .int 181 0, .ref 95, .none, .none, .none, .ref 96, .int 340 0, .int 87 0, .str (Str.ofString "/claim/cut.py") 341] }) ::
    (nat_lit 98, ?f98) ::
    (nat_lit 102, { cls := .type "code", data := .fields #[.str (Str.ofString "with_field") 343, .str (Str.ofString "with_field") 344, .str (Str.ofString "/claim/cut.py") 345, .int 98 0, .int 3 0, .int 0 0, .int 0 0, .int 3 0, .ref 99, .bool true, .int 181 0, .ref 100, .none, .none, .none, .ref 101, .int 346 0, .int 98 0, .str (Str.ofString "/claim/cut.py") 347] }) ::
    (nat_lit 103, ?f103) ::
    (nat_lit 107, { cls := .type "code", data := .fields #[.str (Str.ofString "changed_route") 349, .str (Str.ofString "changed_route") 350, .str (Str.ofString "/claim/cut.py") 351, .int 102 0, .int 3 0, .int 0 0, .int 0 0, .int 3 0, .ref 104, .bool true, .int 181 0, .ref 105, .none, .none, .none, .ref 106, .int 352 0, .int 102 0, .str (Str.ofString "/claim/cut.py") 353] }) ::
    (nat_lit 108, ?f108) ::
    (nat_lit 114, { cls := .type "code", data := .fields #[.str (Str.ofString "run_statements") 355, .str (Str.ofString "run_statements") 356, .str (Str.ofString "/claim/cut.py") 357, .int 114 0, .int 4 0, .int 0 0, .int 0 0, .int 3 0, .ref 109, .bool true, .int 181 0, .ref 110, .none, .ref 111, .ref 112, .ref 113, .int 365 0, .int 114 0, .str (Str.ofString "/claim/cut.py") 366] }) ::
    (nat_lit 115, ?f115) ::
    (nat_lit 121, { cls := .type "code", data := .fields #[.str (Str.ofString "run_policy") 368, .str (Str.ofString "run_policy") 369, .str (Str.ofString "/claim/cut.py") 370, .int 127 0, .int 4 0, .int 0 0, .int 0 0, .int 3 0, .ref 116, .bool true, .int 181 0, .ref 117, .none, .ref 118, .ref 119, .ref 120, .int 380 0, .int 127 0, .str (Str.ofString "/claim/cut.py") 381] }) ::
    (nat_lit 122, ?f122) ::
    (nat_lit 123, { cls := .type "tuple", data := .seq #[.str (Str.ofString "med") 385, .str (Str.ofString "local_pref") 386, .str (Str.ofString "tag") 387, .str (Str.ofString "next_hop") 388] }) ::
    (nat_lit 129, { cls := .type "code", data := .fields #[.str (Str.ofString "_law_draw") 390, .str (Str.ofString "_law_draw") 391, .str (Str.ofString "/claim/cut.py") 392, .int 138 0, .int 2 0, .int 0 0, .int 0 0, .int 3 0, .ref 124, .bool true, .int 181 0, .ref 125, .none, .ref 126, .ref 127, .ref 128, .int 396 0, .int 138 0, .str (Str.ofString "/claim/cut.py") 397] }) ::
    (nat_lit 130, ?f130) ::
    (nat_lit 136, { cls := .type "code", data := .fields #[.str (Str.ofString "_law_asked") 399, .str (Str.ofString "_law_asked") 400, .str (Str.ofString "/claim/cut.py") 401, .int 144 0, .int 2 0, .int 0 0, .int 0 0, .int 3 0, .ref 131, .bool true, .int 181 0, .ref 132, .none, .ref 133, .ref 134, .ref 135, .int 407 0, .int 144 0, .str (Str.ofString "/claim/cut.py") 408] }) ::
    (nat_lit 137, ?f137) ::
    (nat_lit 143, { cls := .type "code", data := .fields #[.str (Str.ofString "_law_statement") 410, .str (Str.ofString "_law_statement") 411, .str (Str.ofString "/claim/cut.py") 412, .int 154 0, .int 2 0, .int 0 0, .int 0 0, .int 3 0, .ref 138, .bool true, .int 181 0, .ref 139, .none, .ref 140, .ref 141, .ref 142, .int 419 0, .int 154 0, .str (Str.ofString "/claim/cut.py") 420] }) ::
    (nat_lit 144, ?f144) ::
    (nat_lit 150, { cls := .type "code", data := .fields #[.str (Str.ofString "_law_policy") 422, .str (Str.ofString "_law_policy") 423, .str (Str.ofString "/claim/cut.py") 424, .int 164 0, .int 1 0, .int 0 0, .int 0 0, .int 3 0, .ref 145, .bool true, .int 181 0, .ref 146, .none, .ref 147, .ref 148, .ref 149, .int 430 0, .int 164 0, .str (Str.ofString "/claim/cut.py") 431] }) ::
    (nat_lit 151, ?f151) ::
    (nat_lit 155, { cls := .type "code", data := .fields #[.str (Str.ofString "_law_route") 433, .str (Str.ofString "_law_route") 434, .str (Str.ofString "/claim/cut.py") 435, .int 172 0, .int 2 0, .int 0 0, .int 0 0, .int 3 0, .ref 152, .bool true, .int 181 0, .ref 153, .none, .none, .none, .ref 154, .int 436 0, .int 172 0, .str (Str.ofString "/claim/cut.py") 437] }) ::
    (nat_lit 156, ?f156) ::
    (nat_lit 160, { cls := .type "code", data := .fields #[.str (Str.ofString "_law_due") 439, .str (Str.ofString "_law_due") 440, .str (Str.ofString "/claim/cut.py") 441, .int 183 0, .int 3 0, .int 0 0, .int 0 0, .int 3 0, .ref 157, .bool true, .int 181 0, .ref 158, .none, .none, .none, .ref 159, .int 442 0, .int 183 0, .str (Str.ofString "/claim/cut.py") 443] }) ::
    (nat_lit 161, ?f161) ::
    (nat_lit 165, { cls := .type "code", data := .fields #[.str (Str.ofString "law") 445, .str (Str.ofString "law") 446, .str (Str.ofString "/claim/cut.py") 447, .int 195 0, .int 1 0, .int 0 0, .int 0 0, .int 3 0, .ref 162, .bool true, .int 181 0, .ref 163, .none, .none, .none, .ref 164, .int 448 0, .int 195 0, .str (Str.ofString "/claim/cut.py") 449] }) ::
    (nat_lit 166, ?f166) :: []
  case f21 => refine (?g21 : ∀ p b s, Program.theDef PySem.Challenge.pw_sj0179_01 (Str.ofString "path_length") = some (p, b, s) → Obj) _ _ _ rfl; exact fun p b s _ => { cls := .type "function", data := .func { name := Str.ofString "path_length", qualname := Str.ofString "path_length", params := p, body := .stmts b, scope := s, globals := 3, closure := [], defaults := .none, kwdefaults := .none, pyModule := .str (Str.ofString "routeloom.paths") 187, code := .ref 20 } }
  case f28 => refine (?g28 : ∀ p b s, Program.theDef PySem.Challenge.pw_sj0179_01 (Str.ofString "neighbour_as") = some (p, b, s) → Obj) _ _ _ rfl; exact fun p b s _ => { cls := .type "function", data := .func { name := Str.ofString "neighbour_as", qualname := Str.ofString "neighbour_as", params := p, body := .stmts b, scope := s, globals := 3, closure := [], defaults := .none, kwdefaults := .none, pyModule := .str (Str.ofString "routeloom.paths") 187, code := .ref 27 } }
  case f35 => refine (?g35 : ∀ p b s, Program.theDef PySem.Challenge.pw_sj0179_01 (Str.ofString "path_has") = some (p, b, s) → Obj) _ _ _ rfl; exact fun p b s _ => { cls := .type "function", data := .func { name := Str.ofString "path_has", qualname := Str.ofString "path_has", params := p, body := .stmts b, scope := s, globals := 3, closure := [], defaults := .none, kwdefaults := .none, pyModule := .str (Str.ofString "routeloom.paths") 187, code := .ref 34 } }
  case f56 => refine (?g56 : ∀ p b s, Program.theDef PySem.Challenge.pw_sj0179_01 (Str.ofString "mask_of") = some (p, b, s) → Obj) _ _ _ rfl; exact fun p b s _ => { cls := .type "function", data := .func { name := Str.ofString "mask_of", qualname := Str.ofString "mask_of", params := p, body := .stmts b, scope := s, globals := 3, closure := [], defaults := .none, kwdefaults := .none, pyModule := .str (Str.ofString "routeloom.prefixes") 244, code := .ref 55 } }
  case f63 => refine (?g63 : ∀ p b s, Program.theDef PySem.Challenge.pw_sj0179_01 (Str.ofString "holds_address") = some (p, b, s) → Obj) _ _ _ rfl; exact fun p b s _ => { cls := .type "function", data := .func { name := Str.ofString "holds_address", qualname := Str.ofString "holds_address", params := p, body := .stmts b, scope := s, globals := 3, closure := [], defaults := .none, kwdefaults := .none, pyModule := .str (Str.ofString "routeloom.prefixes") 244, code := .ref 62 } }
  case f70 => refine (?g70 : ∀ p b s, Program.theDef PySem.Challenge.pw_sj0179_01 (Str.ofString "covers") = some (p, b, s) → Obj) _ _ _ rfl; exact fun p b s _ => { cls := .type "function", data := .func { name := Str.ofString "covers", qualname := Str.ofString "covers", params := p, body := .stmts b, scope := s, globals := 3, closure := [], defaults := .none, kwdefaults := .none, pyModule := .str (Str.ofString "routeloom.prefixes") 244, code := .ref 69 } }
  case f79 => refine (?g79 : ∀ p b s, Program.theDef PySem.Challenge.pw_sj0179_01 (Str.ofString "compares") = some (p, b, s) → Obj) _ _ _ rfl; exact fun p b s _ => { cls := .type "function", data := .func { name := Str.ofString "compares", qualname := Str.ofString "compares", params := p, body := .stmts b, scope := s, globals := 3, closure := [], defaults := .none, kwdefaults := .none, pyModule := .str (Str.ofString "routeloom.policyrun") 274, code := .ref 78 } }
  case f86 => refine (?g86 : ∀ p b s, Program.theDef PySem.Challenge.pw_sj0179_01 (Str.ofString "field_number") = some (p, b, s) → Obj) _ _ _ rfl; exact fun p b s _ => { cls := .type "function", data := .func { name := Str.ofString "field_number", qualname := Str.ofString "field_number", params := p, body := .stmts b, scope := s, globals := 3, closure := [], defaults := .none, kwdefaults := .none, pyModule := .str (Str.ofString "routeloom.policyrun") 274, code := .ref 85 } }
  case f93 => refine (?g93 : ∀ p b s, Program.theDef PySem.Challenge.pw_sj0179_01 (Str.ofString "condition_holds") = some (p, b, s) → Obj) _ _ _ rfl; exact fun p b s _ => { cls := .type "function", data := .func { name := Str.ofString "condition_holds", qualname := Str.ofString "condition_holds", params := p, body := .stmts b, scope := s, globals := 3, closure := [], defaults := .none, kwdefaults := .none, pyModule := .str (Str.ofString "routeloom.policyrun") 274, code := .ref 92 } }
  case f98 => refine (?g98 : ∀ p b s, Program.theDef PySem.Challenge.pw_sj0179_01 (Str.ofString "with_communities") = some (p, b, s) → Obj) _ _ _ rfl; exact fun p b s _ => { cls := .type "function", data := .func { name := Str.ofString "with_communities", qualname := Str.ofString "with_communities", params := p, body := .stmts b, scope := s, globals := 3, closure := [], defaults := .none, kwdefaults := .none, pyModule := .str (Str.ofString "routeloom.policyrun") 274, code := .ref 97 } }
  case f103 => refine (?g103 : ∀ p b s, Program.theDef PySem.Challenge.pw_sj0179_01 (Str.ofString "with_field") = some (p, b, s) → Obj) _ _ _ rfl; exact fun p b s _ => { cls := .type "function", data := .func { name := Str.ofString "with_field", qualname := Str.ofString "with_field", params := p, body := .stmts b, scope := s, globals := 3, closure := [], defaults := .none, kwdefaults := .none, pyModule := .str (Str.ofString "routeloom.policyrun") 274, code := .ref 102 } }
  case f108 => refine (?g108 : ∀ p b s, Program.theDef PySem.Challenge.pw_sj0179_01 (Str.ofString "changed_route") = some (p, b, s) → Obj) _ _ _ rfl; exact fun p b s _ => { cls := .type "function", data := .func { name := Str.ofString "changed_route", qualname := Str.ofString "changed_route", params := p, body := .stmts b, scope := s, globals := 3, closure := [], defaults := .none, kwdefaults := .none, pyModule := .str (Str.ofString "routeloom.policyrun") 274, code := .ref 107 } }
  case f115 => refine (?g115 : ∀ p b s, Program.theDef PySem.Challenge.pw_sj0179_01 (Str.ofString "run_statements") = some (p, b, s) → Obj) _ _ _ rfl; exact fun p b s _ => { cls := .type "function", data := .func { name := Str.ofString "run_statements", qualname := Str.ofString "run_statements", params := p, body := .stmts b, scope := s, globals := 3, closure := [], defaults := .none, kwdefaults := .none, pyModule := .str (Str.ofString "routeloom.policyrun") 274, code := .ref 114 } }
  case f122 => refine (?g122 : ∀ p b s, Program.theDef PySem.Challenge.pw_sj0179_01 (Str.ofString "run_policy") = some (p, b, s) → Obj) _ _ _ rfl; exact fun p b s _ => { cls := .type "function", data := .func { name := Str.ofString "run_policy", qualname := Str.ofString "run_policy", params := p, body := .stmts b, scope := s, globals := 3, closure := [], defaults := .none, kwdefaults := .none, pyModule := .str (Str.ofString "routeloom.policyrun") 274, code := .ref 121 } }
  case f130 => refine (?g130 : ∀ p b s, Program.theDef PySem.Challenge.pw_sj0179_01 (Str.ofString "_law_draw") = some (p, b, s) → Obj) _ _ _ rfl; exact fun p b s _ => { cls := .type "function", data := .func { name := Str.ofString "_law_draw", qualname := Str.ofString "_law_draw", params := p, body := .stmts b, scope := s, globals := 3, closure := [], defaults := .none, kwdefaults := .none, pyModule := .str (Str.ofString "law_sj0179_01") 383, code := .ref 129 } }
  case f137 => refine (?g137 : ∀ p b s, Program.theDef PySem.Challenge.pw_sj0179_01 (Str.ofString "_law_asked") = some (p, b, s) → Obj) _ _ _ rfl; exact fun p b s _ => { cls := .type "function", data := .func { name := Str.ofString "_law_asked", qualname := Str.ofString "_law_asked", params := p, body := .stmts b, scope := s, globals := 3, closure := [], defaults := .none, kwdefaults := .none, pyModule := .str (Str.ofString "law_sj0179_01") 383, code := .ref 136 } }
  case f144 => refine (?g144 : ∀ p b s, Program.theDef PySem.Challenge.pw_sj0179_01 (Str.ofString "_law_statement") = some (p, b, s) → Obj) _ _ _ rfl; exact fun p b s _ => { cls := .type "function", data := .func { name := Str.ofString "_law_statement", qualname := Str.ofString "_law_statement", params := p, body := .stmts b, scope := s, globals := 3, closure := [], defaults := .none, kwdefaults := .none, pyModule := .str (Str.ofString "law_sj0179_01") 383, code := .ref 143 } }
  case f151 => refine (?g151 : ∀ p b s, Program.theDef PySem.Challenge.pw_sj0179_01 (Str.ofString "_law_policy") = some (p, b, s) → Obj) _ _ _ rfl; exact fun p b s _ => { cls := .type "function", data := .func { name := Str.ofString "_law_policy", qualname := Str.ofString "_law_policy", params := p, body := .stmts b, scope := s, globals := 3, closure := [], defaults := .none, kwdefaults := .none, pyModule := .str (Str.ofString "law_sj0179_01") 383, code := .ref 150 } }
  case f156 => refine (?g156 : ∀ p b s, Program.theDef PySem.Challenge.pw_sj0179_01 (Str.ofString "_law_route") = some (p, b, s) → Obj) _ _ _ rfl; exact fun p b s _ => { cls := .type "function", data := .func { name := Str.ofString "_law_route", qualname := Str.ofString "_law_route", params := p, body := .stmts b, scope := s, globals := 3, closure := [], defaults := .none, kwdefaults := .none, pyModule := .str (Str.ofString "law_sj0179_01") 383, code := .ref 155 } }
  case f161 => refine (?g161 : ∀ p b s, Program.theDef PySem.Challenge.pw_sj0179_01 (Str.ofString "_law_due") = some (p, b, s) → Obj) _ _ _ rfl; exact fun p b s _ => { cls := .type "function", data := .func { name := Str.ofString "_law_due", qualname := Str.ofString "_law_due", params := p, body := .stmts b, scope := s, globals := 3, closure := [], defaults := .none, kwdefaults := .none, pyModule := .str (Str.ofString "law_sj0179_01") 383, code := .ref 160 } }
  case f166 => refine (?g166 : ∀ p b s, Program.theDef PySem.Challenge.pw_sj0179_01 (Str.ofString "law") = some (p, b, s) → Obj) _ _ _ rfl; exact fun p b s _ => { cls := .type "function", data := .func { name := Str.ofString "law", qualname := Str.ofString "law", params := p, body := .stmts b, scope := s, globals := 3, closure := [], defaults := .none, kwdefaults := .none, pyModule := .str (Str.ofString "law_sj0179_01") 383, code := .ref 165 } }
noncomputable def hd.view_39 : Program := view PySem.Challenge.pw_sj0179_01 [1, 2, 3, 4, 5, 6, 7, 8, 10, 11, 12, 13, 15, 16, 17, 18, 19, 20, 21, 22, 23, 24, 25, 26, 27, 28, 30, 31, 32, 33, 34, 35, 36, 37]
noncomputable abbrev hd.as : List Addr := nat_lit 2 :: nat_lit 3 :: nat_lit 20 :: nat_lit 21 :: nat_lit 27 :: nat_lit 28 :: nat_lit 34 :: nat_lit 35 :: nat_lit 55 :: nat_lit 56 :: nat_lit 62 :: nat_lit 63 :: nat_lit 69 :: nat_lit 70 :: nat_lit 71 :: nat_lit 72 :: nat_lit 78 :: nat_lit 79 :: nat_lit 85 :: nat_lit 86 :: nat_lit 92 :: nat_lit 93 :: nat_lit 97 :: nat_lit 98 :: nat_lit 102 :: nat_lit 103 :: nat_lit 107 :: nat_lit 108 :: nat_lit 114 :: nat_lit 115 :: nat_lit 121 :: nat_lit 122 :: nat_lit 123 :: nat_lit 129 :: nat_lit 130 :: nat_lit 136 :: nat_lit 137 :: nat_lit 143 :: nat_lit 144 :: nat_lit 150 :: nat_lit 151 :: nat_lit 155 :: nat_lit 156 :: nat_lit 160 :: nat_lit 161 :: nat_lit 165 :: nat_lit 166 :: []
noncomputable abbrev hd.loose : List Str := [Str.ofString "FIELDS", Str.ofString "ENDS"]
noncomputable abbrev hd.seen (s : Shared) : Bool := xlAt hd.view_39 [] s && recOk (RowW.records PySem.Challenge.rw_sj0179_01.row.toRowW) s
noncomputable abbrev hd.hook : Hook := kHook hd.heap_39 hd.as (fun _ => by kernel_rfl)
theorem hd.said : PySem.Challenge.rw_sj0179_01.wellSaid = true := by kernel_rfl
theorem hd.good : (chainsOk hd.view_39 && opensWell PySem.Challenge.rw_sj0179_01.row.prog && (frees PySem.Challenge.rw_sj0179_01.row.toRowW && PySem.Challenge.rw_sj0179_01.row.within.isEmpty)) = true := by kernel_rfl
theorem hd.asks : PySem.Challenge.rw_sj0179_01.row.toRowW.promised := ⟨[WData.list []], by decide +kernel, by decide +kernel⟩
theorem hd.bare : PySem.Challenge.rw_sj0179_01.row.prog.bare := ⟨rfl, rfl, rfl, rfl, rfl, by decide +kernel⟩
theorem hd.opens : opening PySem.Challenge.pw_sj0179_01 = plainProg PySem.Challenge.pw_sj0179_01.main.scope.names := by kernel_rfl
theorem hd.fence : ∀ s, fenceModules? PySem.Challenge.pw_sj0179_01 s = some s := fun s => by kernel_rfl
def hd.Ran (w : World) : Prop := ∀ os : OsState, (topFrom treeTable PySem.Challenge.pw_sj0179_01 w 2068 ⟨boot_heap w.params, ⟨[]⟩, boot_drawn, boot_toks, os⟩).map (fun s => (openSeen hd.view_39 hd.loose (importedModules PySem.Challenge.pw_sj0179_01.main.body) hd.seen true s, hd.hook.obs s)) = some (openGood hd.view_39 hd.loose, hd.hook.val w)
theorem hd.ran0 : ∀ w : World, hd.Ran (w.withFollow "special-get-raises" false) := fun w os => by kernel_rfl
theorem hd.ran1 : ∀ w : World, hd.Ran (w.withFollow "special-get-raises" true) := fun w os => by kernel_rfl
theorem hd.left : LeftO PySem.Challenge.pw_sj0179_01 hd.view_39 hd.loose hd.seen hd.hook.obs hd.hook.val 2068 := by
  intro w
  obtain ⟨⟨h, gs, d, k, os⟩, e, e'⟩ := Option.map_eq_some_iff.mp (boot_open (p := PySem.Challenge.pw_sj0179_01) (N := 2068) hd.opens (by decide) hd.fence w)
  obtain ⟨rfl, rfl, rfl, rfl⟩ : h = boot_heap w.params ∧ gs = ⟨[]⟩ ∧ d = boot_drawn ∧ k = boot_toks := by simpa using e'
  have r := byRow2 (P := hd.Ran) "special-get-raises" hd.ran0 hd.ran1 w os
  unfold openEnds
  rw [e]
  exact r
open PySem.Calls PySem.Spec
abbrev Led := List (Addr × Obj)
abbrev tupO (vs : List Value) : Obj := { cls := .type "tuple", data := .seq vs.toArray }
abbrev boxO (l : Addr) (n : Nat) (sp : Int) (t : Tok) : Obj := PySem.W.listOf [.ref l, .int sp t].toArray n

def Ct (w : World) (f : Addr) (vs : List Value) (dn cu : Nat) (news : Led) (Post : Value → Led → Prop) : Prop :=
  ∀ (mean : ExcName → Option Value) (mg mb : Str → Option Value) (dp un : Nat) (gd : Option (List Code)) (cn : Str) (cs : Scope) (a : Addr) (ccd : Value) (cl : List (Str × Addr)) (outer : List Env) (A₀ : Around) (base h₀ : Heap) (L : Addr) (m : Str → Option Value) (s : Shared)
    (Q E : Value → Shared → Prop),
    Below A₀ base outer h₀ → Fr h₀ L s.heap m → (Mine.hd.heap_39 w.params).In h₀ → News h₀ L s.heap news → Top Mine.hd.view_39 (looseW Mine.hd.view_39 [Str.ofString "FIELDS", Str.ofString "ENDS"]) mean mg mb h₀ → cs.kind = .function → dp + dn < recursionLimit → un + cu < cLine →
    (∀ r news' h' tk', Fr h₀ L h' m → News h₀ L h' news' → Post r news' → Q r { s with heap := h', toks := tk' }) →
    wpAny (model Challenge.rw_sj0179_01.row.prog w) (ktrTop dp un gd cn cs L a ccd cl outer) (call (.ref f) vs) Q E s

theorem ct_use {w : World} {f : Addr} {vs : List Value} {dn cu : Nat} {news : Led} {Post : Value → Led → Prop} (C : Ct w f vs dn cu news Post)
  {mean : ExcName → Option Value} {mg mb : Str → Option Value} {dp un : Nat} {gd : Option (List Code)} {cn : Str} {cs : Scope} {a : Addr} {ccd : Value} {cl : List (Str × Addr)} {outer : List Env} {A₀ : Around} {base h₀ : Heap} {L : Addr} {m : Str → Option Value} {s : Shared}
    {Q E : Value → Shared → Prop} (B : Below A₀ base outer h₀) (F : Fr h₀ L s.heap m) (X : (Mine.hd.heap_39 w.params).In h₀) (N : News h₀ L s.heap news) (T : Top Mine.hd.view_39 (looseW Mine.hd.view_39 [Str.ofString "FIELDS", Str.ofString "ENDS"]) mean mg mb h₀) (hk : cs.kind = .function) (hd : dp + dn < recursionLimit) (hu : un + cu < cLine)
    (hret : ∀ r news' h' tk', Fr h₀ L h' m → News h₀ L h' news' → Post r news' → Q r { s with heap := h', toks := tk' }) :
    wpAny (model Challenge.rw_sj0179_01.row.prog w) (ktrTop dp un gd cn cs L a ccd cl outer) (call (.ref f) vs) Q E s :=
  C _ _ _ _ _ _ _ _ _ _ _ _ _ _ _ _ _ _ _ _ B F X N T hk hd hu hret

theorem len_led {prog : Program} {w : World} {A : Around} {E : Value → Shared → Prop} {s : Shared} {h₀ : Heap} {L a : Addr} {news : Led} {vs : List Value} {n : Nat} {ns : List Int} {Q : Value → Shared → Prop}
    (N : News h₀ L s.heap news) (hm : (a, PySem.W.listOf vs.toArray n) ∈ news) (hI : IntsAre vs ns) (hfit : ns.length ≤ 100000)
    (h : Q (.int (ns.length : Nat) (s.toks + 1)) { s with toks := s.toks + 1 + 1 }) : wpAny (model prog w) A (call (.builtin "len") [.ref a]) Q E s := by
  have e := hI.length
  refine call_len_list (PySem.IsL.isList (n := n) (N _ hm).1) (by rw [List.size_toArray]; omega) ?_
  rw [List.size_toArray, e]
  exact h

section
variable {prog : Program} {w : World} {A : Around} {E : Value → Shared → Prop} {s : Shared} {h₀ : Heap} {L a : Addr} {news : Led} {vs : List Value} {n : Nat} {k : Int} {u : Tok} {v : Value} {j : Nat} {value slice : PySem.Expr} {Q : Value → Shared → Prop}
theorem sub_list (N : News h₀ L s.heap news) (hm : (a, PySem.W.listOf vs.toArray n) ∈ news) (h0 : 0 ≤ k) (hhi : k < 2 ^ 63) (hx : vs[k.toNat]? = some v)
    (hs : subscripted slice false (.ref a) (.int k u) = operate [.ref a, .int k u] (getItem (.ref a) (.int k u))) (h : Q v s) :
    wpAny (model prog w) A (subscriptTail value slice (.ref a) (.int k u)) Q E s := item_litK (PySem.IsL.isList (n := n) (N _ hm).1) h0 hhi hx h hs
theorem sub_tup (N : News h₀ L s.heap news) (hm : (a, tupO vs) ∈ news) (h0 : -(2 ^ 63) ≤ k) (hhi : k < 2 ^ 63) (hj : seqIndex? k vs.length = some j) (hx : vs[j]? = some v)
    (hs : subscripted slice false (.ref a) (.int k u) = operate [.ref a, .int k u] (getItem (.ref a) (.int k u))) (h : Q v s) :
    wpAny (model prog w) A (subscriptTail value slice (.ref a) (.int k u)) Q E s := item_tupleT (News.isTup N hm) h0 hhi hj hx h hs
theorem sub_list_any (N : News h₀ L s.heap news) (hm : (a, PySem.W.listOf vs.toArray n) ∈ news) (h0 : 0 ≤ k) (hk : k < (vs.length : Int)) (hhi : vs.length ≤ 100000)
    (hs : subscripted slice false (.ref a) (.int k u) = operate [.ref a, .int k u] (getItem (.ref a) (.int k u))) (h : ∀ v, v ∈ vs → Q v s) :
    wpAny (model prog w) A (subscriptTail value slice (.ref a) (.int k u)) Q E s :=
  have hl : k.toNat < vs.length := by omega
  sub_list N hm h0 (by omega) (List.getElem?_eq_getElem hl) hs (h _ (List.getElem_mem hl))
theorem seqIndex_at {k : Int} {n : Nat} (h0 : 0 ≤ k) (h1 : k < (n : Int)) : seqIndex? k n = some k.toNat := by
  unfold seqIndex?
  have h2 : ¬ k < 0 := by omega
  simp only [h2, if_false]
  rw [if_pos]
  simp only [Bool.and_eq_true, decide_eq_true_eq]
  omega
theorem sub_tup_any (N : News h₀ L s.heap news) (hm : (a, tupO vs) ∈ news) (h0 : 0 ≤ k) (hk : k < (vs.length : Int)) (hhi : vs.length ≤ 100000)
    (hs : subscripted slice false (.ref a) (.int k u) = operate [.ref a, .int k u] (getItem (.ref a) (.int k u))) (h : ∀ v, v ∈ vs → Q v s) :
    wpAny (model prog w) A (subscriptTail value slice (.ref a) (.int k u)) Q E s :=
  have hl : k.toNat < vs.length := by omega
  sub_tup N hm (by omega) (by omega) (seqIndex_at h0 hk) (List.getElem?_eq_getElem hl) hs (h _ (List.getElem_mem hl))
end
def Stop (p : Prop) : Prop := p
theorem stop_of {p : Prop} (h : Stop p) : p := h
inductive Pull (p : Addr × Obj) : Led → Led → Prop
  | here {r} : Pull p (p :: r) r
  | there {q r r'} : Pull p r r' → Pull p (q :: r) (q :: r')
  | app {x r r'} : Pull p r r' → Pull p (x ++ r) (x ++ r')
theorem Pull.sub {p : Addr × Obj} {l l' : Led} (h : Pull p l l') : ∀ q ∈ p :: l', q ∈ l := by
  induction h with
  | here => exact fun _ h => h
  | there _ r =>
    intro q h
    rcases List.mem_cons.mp h with rfl | h
    · exact List.mem_cons_of_mem _ (r _ List.mem_cons_self)
    · rcases List.mem_cons.mp h with rfl | h
      · exact List.mem_cons_self
      · exact List.mem_cons_of_mem _ (r _ (List.mem_cons_of_mem _ h))
  | app _ r =>
    intro q h
    rcases List.mem_cons.mp h with rfl | h
    · exact List.mem_append_right _ (r _ List.mem_cons_self)
    · rcases List.mem_append.mp h with h | h
      · exact List.mem_append_left _ h
      · exact List.mem_append_right _ (r _ (List.mem_cons_of_mem _ h))
theorem newsSub {h₀ h : Heap} {L : Addr} {l l' : Led} (N : News h₀ L h l) (s : ∀ q ∈ l', q ∈ l) : News h₀ L h l' := fun p hp => N p (s p hp)
theorem newsPull {h₀ h : Heap} {L : Addr} {l l' : Led} {p : Addr × Obj} (N : News h₀ L h l) (s : Pull p l l') : News h₀ L h (p :: l') := newsSub N s.sub

inductive Spl (news : Led) : Led → Led → Prop
  | nil : Spl news news []
  | cons {p f tl} : Spl news f tl → Spl news (p :: f) (p :: tl)
  | app {x f tl} : Spl news f tl → Spl news (x ++ f) (x ++ tl)
theorem Spl.eq {news : Led} : ∀ {f tl : Led}, Spl news f tl → f = tl ++ news
  | _, _, .nil => rfl
  | _, _, .cons h => by rw [h.eq]; rfl
  | _, _, .app h => by rw [h.eq, List.append_assoc]

theorem ne_of_abv {b : Addr} {tl : Led} (h : ∀ q ∈ tl, @LT.lt Nat _ b q.1) : ∀ q ∈ tl, q.1 ≠ b := fun q hq => Nat.ne_of_gt (h q hq)

theorem lt_of_all {b x : Addr} {o : Obj} {l : Led} (h : ∀ p ∈ l, @LT.lt Nat _ p.1 x) (m : (b, o) ∈ l) : @LT.lt Nat _ b x := h _ m
theorem ne_of_all {b x : Addr} {o o' : Obj} {l : Led} (h : ∀ p ∈ l, @LT.lt Nat _ p.1 x) (m : (b, o) ∈ l) : (x, o').1 ≠ b := Nat.ne_of_gt (h _ m)
theorem all_sub {x : Addr} {l l' : Led} (h : ∀ p ∈ l, @LT.lt Nat _ p.1 x) (s : ∀ p ∈ l', p ∈ l) : ∀ p ∈ l', @LT.lt Nat _ p.1 x := fun p hp => h p (s p hp)
theorem sub_app {a b c : Led} (h : ∀ p ∈ a, p ∈ c) (k : ∀ p ∈ b, p ∈ c) : ∀ p ∈ a ++ b, p ∈ c := fun p hp => (List.mem_append.mp hp).elim (h p) (k p)
theorem sub_cons {x : Addr × Obj} {a c : Led} (h : x ∈ c) (k : ∀ p ∈ a, p ∈ c) : ∀ p ∈ x :: a, p ∈ c := fun p hp => (List.mem_cons.mp hp).elim (fun e => e ▸ h) (k p)
def Abv (b : Addr) (news tl : Led) : Prop := (∀ q ∈ tl, @LT.lt Nat _ b q.1) ∧ ∀ q ∈ tl, ∀ p ∈ news, @LT.lt Nat _ p.1 q.1
theorem Abv.nil {b : Addr} {news : Led} : Abv b news [] := ⟨fun _ h => (nomatch h), fun _ h => (nomatch h)⟩
theorem Abv.cons {b x : Addr} {o : Obj} {news tl : Led} (h1 : @LT.lt Nat _ b x) (h2 : ∀ p ∈ news, @LT.lt Nat _ p.1 x) (h : Abv b news tl) : Abv b news ((x, o) :: tl) :=
  ⟨List.forall_mem_cons.mpr ⟨h1, h.1⟩, List.forall_mem_cons.mpr ⟨h2, h.2⟩⟩
theorem Abv.app {b : Addr} {news news' tl tl' : Led} (h : Abv b news' tl') (s : ∀ p ∈ news, p ∈ news') (h' : Abv b news tl) : Abv b news (tl' ++ tl) :=
  ⟨List.forall_mem_append.mpr ⟨h.1, h'.1⟩, List.forall_mem_append.mpr ⟨fun q hq p hp => h.2 q hq p (s p hp), h'.2⟩⟩

theorem ne_of_abv1 {b : Addr} {news tl : Led} (h : Abv b news tl) : ∀ q ∈ tl, q.1 ≠ b := ne_of_abv h.1
theorem ne_of_abv2 {b d : Addr} {o : Obj} {news tl : Led} (h : Abv b news tl) (m : (d, o) ∈ news) : ∀ q ∈ tl, q.1 ≠ d := fun q hq => Nat.ne_of_gt (h.2 q hq _ m)
theorem ne_of_low {b : Addr} {l l' : Led} (h : ∀ p ∈ l, @LT.lt Nat _ p.1 b) (s : ∀ p ∈ l', p ∈ l) : ∀ q ∈ l', q.1 ≠ b := fun q hq => Nat.ne_of_lt (h q (s q hq))
theorem ne_of_low1 {b x : Addr} {o o' : Obj} {l : Led} (h : ∀ p ∈ l, @LT.lt Nat _ p.1 b) (m : (x, o) ∈ l) : (x, o').1 ≠ b := show x ≠ b from Nat.ne_of_lt (h _ m)
theorem Abv.low {b d : Addr} {news tl : Led} (h : Abv b news tl) {o : Obj} (m : (d, o) ∈ news) : Abv d news tl := ⟨fun q hq => h.2 q hq _ m, h.2⟩
theorem Abv.sub {b : Addr} {news news' tl : Led} (h : Abv b news tl) (s : ∀ p ∈ news', p ∈ news) : Abv b news' tl := ⟨h.1, fun q hq p hp => h.2 q hq p (s p hp)⟩

theorem append_led {prog : Program} {w : World} {A : Around} {E : Value → Shared → Prop} {s : Shared} {h₀ : Heap} {L D : Addr} {m : Str → Option Value} {full rest : Led} {vs : List Value} {n : Nat} {x : Value} {Q : Value → Shared → Prop}
    (F : Fr h₀ L s.heap m) (N : News h₀ L s.heap full) (U : Pull (D, PySem.W.listOf vs.toArray n) full rest) (hne : ∀ p ∈ rest, p.1 ≠ D) (hsz : vs.length ≤ 100000)
    (h : ∀ h', Fr h₀ L h' m → News h₀ L h' ((D, PySem.W.listOf (vs ++ [x]).toArray (n + 1)) :: rest) → Q .none { s with heap := h' }) : wpAny (model prog w) A (call (.builtin "list.append") [.ref D, x]) Q E s := by
  refine append_K F (newsPull N U) (Upd.head hne) (fun h' F' N' => h h' F' ?_) (by rw [List.size_toArray, sizeLine_eq]; omega)
  rw [List.push_toArray] at N'
  exact N'
theorem tuple_led {prog : Program} {w : World} {A : Around} {E : Value → Shared → Prop} {s : Shared} {h₀ : Heap} {L a : Addr} {m : Str → Option Value} {news : Led} {vs : List Value} {n : Nat} {Q : Value → Shared → Prop}
    (F : Fr h₀ L s.heap m) (N : News h₀ L s.heap news) (hm : (a, PySem.W.listOf vs.toArray n) ∈ news) (hz : vs.length ≤ 16384)
    (h : ∀ D h', Fr h₀ L h' m → News h₀ L h' ((D, tupO vs) :: news) → (∀ p ∈ news, @LT.lt Nat _ p.1 D) → Q (.ref D) { s with heap := h' }) : wpAny (model prog w) A (call (.type "tuple") [.ref a]) Q E s :=
  kde_tupleOf F N (PySem.IsL.isList (n := n) (N _ hm).1) (by rw [List.size_toArray]; exact hz) rfl h
def BoxPost (b l : Addr) (n : Nat) (sp k : Int) (news : Led) (R : Led → Value → Prop) : Value → Led → Prop := fun r news' =>
  ∃ tl t' sp', news' = (b, boxO l n sp' t') :: (tl ++ news) ∧ Abv b news tl ∧ sp ≤ sp' ∧ sp' ≤ sp + k ∧ R tl r

theorem box_end {b l : Addr} {n : Nat} {sp k sp' : Int} {t' : Tok} {news : Led} {R : Led → Value → Prop} {h₀ h' : Heap} {L : Addr} {m : Str → Option Value} {s : Shared} {Q : Value → Shared → Prop} {r : Value} {full rest tl : Led} {tk' : Nat}
    (hret : ∀ r news' h' tk', Fr h₀ L h' m → News h₀ L h' news' → BoxPost b l n sp k news R r news' → Q r { s with heap := h', toks := tk' })
    (F : Fr h₀ L h' m) (N : News h₀ L h' full) (U : Pull (b, boxO l n sp' t') full rest) (S : Spl news rest tl) (ha : Abv b news tl) (h1 : sp ≤ sp') (h2 : sp' ≤ sp + k) (hR : R tl r) : Q r { s with heap := h', toks := tk' } := by
  have N' := newsPull N U
  rw [S.eq] at N'
  exact hret r _ h' tk' F N' ⟨tl, t', sp', rfl, ha, h1, h2, hR⟩
theorem gen_toks {M : Model} {A : Around} {α : Type} {T : Sem α} {Q : α → Shared → Prop} {E : Value → Shared → Prop} {h : Heap} {g : Array GenState} {d : Drawn} {x : Nat} {o : OsState} (k : ∀ tk, wpAny M A T Q E ⟨h, g, d, tk, o⟩) : wpAny M A T Q E ⟨h, g, d, x, o⟩ := k x

local macro_rules | `(tactic| walk_at $s:str) => `(tactic| k_extra $(Lean.Syntax.mkStrLit ("m " ++ s.getString)))
local macro_rules | `(tactic| k_all) => `(tactic| assumption)
local macro_rules | `(tactic| k_mem) => `(tactic| (with_reducible (first | exact List.mem_cons_self | assumption | (refine List.mem_cons_of_mem _ ?_; k_mem) | (refine List.mem_append_right _ ?_; k_mem) | (refine List.mem_append_left _ ?_; k_mem))))
local macro_rules | `(tactic| k_lt $h:ident) => `(tactic| skip)

theorem kwdraw1 : True := by
  k_with_none
  k_with "m call builtin:len" => (k_here; (with_reducible show wpAny _ _ (call (Value.builtin "len") [Value.ref _]) _ _ _); k_dflt (refine' len_led ?k1_z ?k2_z ?k3_z ?k4_z ?_; (case k1_z => k_asm); (case k2_z => k_mem); (case k3_z => with_reducible assumption); (case k4_z => omega)))
  k_with "m ite" => (k_closed; with_reducible (first | refine ite_tt ?_ | refine ite_ff ?_ | refine PySem.W.ite_neg (by decide) ?_ | refine PySem.W.ite_pos (by decide) ?_))
  k_with "m subscriptTail" => (k_here; (with_reducible show wpAny _ _ (subscriptTail _ _ (Value.ref _) (Value.int _ _)) _ _ _); k_dflt (first | (refine' sub_list ?N_z ?m_z ?a_z ?b_z ?x_z ?s_z ?_; (case N_z => k_asm); (case m_z => k_mem); (case a_z => decide); (case b_z => decide); (case x_z => rfl); (case s_z => with_unfolding_all rfl)) | (refine' sub_tup ?N_z ?m_z ?a_z ?b_z ?j_z ?x_z ?s_z ?_; (case N_z => k_asm); (case m_z => k_mem); (case a_z => decide); (case b_z => decide); (case j_z => rfl); (case x_z => rfl); (case s_z => with_unfolding_all rfl))))
  k_with "m subscriptTail Name Call ref int" => (k_here; (with_reducible show wpAny _ _ (subscriptTail _ _ (Value.ref _) (Value.int _ _)) _ _ _); k_dflt (first | (refine' sub_list_any ?N_z ?m_z ?a_z ?b_z ?z_z ?s_z ?_; (case N_z => k_asm); (case m_z => k_mem); (case a_z => omega); (case b_z => first | (simp only [List.length_cons, List.length_nil]; omega) | (simp only [List.length_append, List.length_cons, List.length_nil]; omega) | (simp only [List.length_append]; omega)); (case z_z => first | exact Nat.le_of_ble_eq_true rfl | (simp only [List.length_append, List.length_cons, List.length_nil]; omega) | (simp only [List.length_append]; omega)); (case s_z => with_unfolding_all rfl)) | (refine' sub_tup_any ?N_z ?m_z ?a_z ?b_z ?z_z ?s_z ?_; (case N_z => k_asm); (case m_z => k_mem); (case a_z => omega); (case b_z => first | (simp only [List.length_cons, List.length_nil]; omega) | (simp only [List.length_append, List.length_cons, List.length_nil]; omega) | (simp only [List.length_append]; omega)); (case z_z => first | exact Nat.le_of_ble_eq_true rfl | (simp only [List.length_append, List.length_cons, List.length_nil]; omega) | (simp only [List.length_append]; omega)); (case s_z => with_unfolding_all rfl))); intro _ _)
  k_with "m subscriptTail Tuple" => (k_here; (with_reducible show wpAny _ _ (subscriptTail _ _ (Value.ref _) (Value.int _ _)) _ _ _); k_dflt (first | (refine' sub_list_any ?N_z ?m_z ?a_z ?b_z ?z_z ?s_z ?_; (case N_z => k_asm); (case m_z => k_mem); (case a_z => omega); (case b_z => first | (simp only [List.length_cons, List.length_nil]; omega) | (simp only [List.length_append, List.length_cons, List.length_nil]; omega) | (simp only [List.length_append]; omega)); (case z_z => first | exact Nat.le_of_ble_eq_true rfl | (simp only [List.length_append, List.length_cons, List.length_nil]; omega) | (simp only [List.length_append]; omega)); (case s_z => with_unfolding_all rfl)) | (refine' sub_tup_any ?N_z ?m_z ?a_z ?b_z ?z_z ?s_z ?_; (case N_z => k_asm); (case m_z => k_mem); (case a_z => omega); (case b_z => first | (simp only [List.length_cons, List.length_nil]; omega) | (simp only [List.length_append, List.length_cons, List.length_nil]; omega) | (simp only [List.length_append]; omega)); (case z_z => first | exact Nat.le_of_ble_eq_true rfl | (simp only [List.length_append, List.length_cons, List.length_nil]; omega) | (simp only [List.length_append]; omega)); (case s_z => with_unfolding_all rfl))); intro _ _)
  k_with "m subscriptTail List" => (k_here; (with_reducible show wpAny _ _ (subscriptTail _ _ (Value.ref _) (Value.int _ _)) _ _ _); k_dflt (first | (refine' sub_list_any ?N_z ?m_z ?a_z ?b_z ?z_z ?s_z ?_; (case N_z => k_asm); (case m_z => k_mem); (case a_z => omega); (case b_z => first | (simp only [List.length_cons, List.length_nil]; omega) | (simp only [List.length_append, List.length_cons, List.length_nil]; omega) | (simp only [List.length_append]; omega)); (case z_z => first | exact Nat.le_of_ble_eq_true rfl | (simp only [List.length_append, List.length_cons, List.length_nil]; omega) | (simp only [List.length_append]; omega)); (case s_z => with_unfolding_all rfl)) | (refine' sub_tup_any ?N_z ?m_z ?a_z ?b_z ?z_z ?s_z ?_; (case N_z => k_asm); (case m_z => k_mem); (case a_z => omega); (case b_z => first | (simp only [List.length_cons, List.length_nil]; omega) | (simp only [List.length_append, List.length_cons, List.length_nil]; omega) | (simp only [List.length_append]; omega)); (case z_z => first | exact Nat.le_of_ble_eq_true rfl | (simp only [List.length_append, List.length_cons, List.length_nil]; omega) | (simp only [List.length_append]; omega)); (case s_z => with_unfolding_all rfl))); intro _ _)
  k_with "m execs cons" => (k_here; (with_reducible show wpAny _ _ _ _ _ (Shared.mk _ _ _ (_ + 1) _)); refine gen_toks ?_; intro (tk : Nat))
  trivial
theorem fmod_lo {a b : Int} (h : 0 < b) : 0 ≤ a.fmod b := by
  rw [Int.fmod_eq_emod_of_nonneg _ (Int.le_of_lt h)]
  exact Int.emod_nonneg _ (by omega)
theorem fmod_hi {a b : Int} (h : 0 < b) : a.fmod b < b := by
  rw [Int.fmod_eq_emod_of_nonneg _ (Int.le_of_lt h)]
  exact Int.emod_lt_of_pos _ h

theorem draw_ct {w : World} {b l : Addr} {n n' : Nat} {sp : Int} {t : Tok} {vs : List Value} {ns : List Int} {many : Int} {tm : Tok} {news : Led}
    (hI : IntsAre vs ns) (hlen : ns.length ≤ 48) (hl : (l, PySem.W.listOf vs.toArray n') ∈ news) (hb : ∀ q ∈ news, q.1 ≠ b) (hm : 0 < many) (hm2 : many ≤ 1000) (h0 : 0 ≤ sp) (h1 : sp ≤ 1000) :
    Ct w 130 [.ref b, .int many tm] 10 100 ((b, boxO l n sp t) :: news)
      (fun r news' => ∃ t' x tx, r = .int x tx ∧ 0 ≤ x ∧ x < many ∧ news' = (b, boxO l n (sp + 1) t') :: news) := by
  unfold Ct
  k_fill
  intro mean mg mb dp un gd cn cs a ccd cl outer A₀ base h₀ L m s Q E B F X N T hk hd hu hret
  refine wpAny_call ?_
  k_dflt ktr_enter
  k_steps
  all_goals refine hret _ _ _ _ (by k_asm) (by k_asm) ⟨_, _, _, rfl, ?_, ?_, rfl⟩
  all_goals first
    | exact fmod_lo hm
    | exact fmod_hi hm

inductive Atom where
  | s (x : Str)
  | i (n : Int)
inductive AtomsAre : List Value → List Atom → Prop
  | nil : AtomsAre [] []
  | s {x t vs as} (h : AtomsAre vs as) : AtomsAre (.str x t :: vs) (.s x :: as)
  | i {n t vs as} (h : AtomsAre vs as) : AtomsAre (.int n t :: vs) (.i n :: as)
inductive RowsAre (N : Led) : List Value → List (List Atom) → Prop
  | nil : RowsAre N [] []
  | cons {a us as vs rows} (hm : (a, tupO us) ∈ N) (ha : AtomsAre us as) (h : RowsAre N vs rows) : RowsAre N (.ref a :: vs) (as :: rows)
theorem kwdisp2 : True := by
  k_with_none
  k_with "m call builtin:len" => (k_here; (with_reducible show wpAny _ _ (call (Value.builtin "len") [Value.ref _]) _ _ _); k_dflt (refine' len_led ?k1_z ?k2_z ?k3_z ?k4_z ?_; (case k1_z => k_asm); (case k2_z => k_mem); (case k3_z => with_reducible assumption); (case k4_z => omega)))
  k_with "m ite" => (k_closed; with_reducible (first | refine ite_tt ?_ | refine ite_ff ?_ | refine PySem.W.ite_neg (by decide) ?_ | refine PySem.W.ite_pos (by decide) ?_))
  k_with "m subscriptTail" => (k_here; (with_reducible show wpAny _ _ (subscriptTail _ _ (Value.ref _) (Value.int _ _)) _ _ _); k_dflt (first | (refine' sub_list ?N_z ?m_z ?a_z ?b_z ?x_z ?s_z ?_; (case N_z => k_asm); (case m_z => k_mem); (case a_z => decide); (case b_z => decide); (case x_z => rfl); (case s_z => with_unfolding_all rfl)) | (refine' sub_tup ?N_z ?m_z ?a_z ?b_z ?j_z ?x_z ?s_z ?_; (case N_z => k_asm); (case m_z => k_mem); (case a_z => decide); (case b_z => decide); (case j_z => rfl); (case x_z => rfl); (case s_z => with_unfolding_all rfl))))
  k_with "m subscriptTail Name Call ref int" => (k_here; (with_reducible show wpAny _ _ (subscriptTail _ _ (Value.ref _) (Value.int _ _)) _ _ _); k_dflt (first | (refine' sub_list_any ?N_z ?m_z ?a_z ?b_z ?z_z ?s_z ?_; (case N_z => k_asm); (case m_z => k_mem); (case a_z => omega); (case b_z => first | (simp only [List.length_cons, List.length_nil]; omega) | (simp only [List.length_append, List.length_cons, List.length_nil]; omega) | (simp only [List.length_append]; omega)); (case z_z => first | exact Nat.le_of_ble_eq_true rfl | (simp only [List.length_append, List.length_cons, List.length_nil]; omega) | (simp only [List.length_append]; omega)); (case s_z => with_unfolding_all rfl)) | (refine' sub_tup_any ?N_z ?m_z ?a_z ?b_z ?z_z ?s_z ?_; (case N_z => k_asm); (case m_z => k_mem); (case a_z => omega); (case b_z => first | (simp only [List.length_cons, List.length_nil]; omega) | (simp only [List.length_append, List.length_cons, List.length_nil]; omega) | (simp only [List.length_append]; omega)); (case z_z => first | exact Nat.le_of_ble_eq_true rfl | (simp only [List.length_append, List.length_cons, List.length_nil]; omega) | (simp only [List.length_append]; omega)); (case s_z => with_unfolding_all rfl))); intro _ _)
  k_with "m subscriptTail Tuple" => (k_here; (with_reducible show wpAny _ _ (subscriptTail _ _ (Value.ref _) (Value.int _ _)) _ _ _); k_dflt (first | (refine' sub_list_any ?N_z ?m_z ?a_z ?b_z ?z_z ?s_z ?_; (case N_z => k_asm); (case m_z => k_mem); (case a_z => omega); (case b_z => first | (simp only [List.length_cons, List.length_nil]; omega) | (simp only [List.length_append, List.length_cons, List.length_nil]; omega) | (simp only [List.length_append]; omega)); (case z_z => first | exact Nat.le_of_ble_eq_true rfl | (simp only [List.length_append, List.length_cons, List.length_nil]; omega) | (simp only [List.length_append]; omega)); (case s_z => with_unfolding_all rfl)) | (refine' sub_tup_any ?N_z ?m_z ?a_z ?b_z ?z_z ?s_z ?_; (case N_z => k_asm); (case m_z => k_mem); (case a_z => omega); (case b_z => first | (simp only [List.length_cons, List.length_nil]; omega) | (simp only [List.length_append, List.length_cons, List.length_nil]; omega) | (simp only [List.length_append]; omega)); (case z_z => first | exact Nat.le_of_ble_eq_true rfl | (simp only [List.length_append, List.length_cons, List.length_nil]; omega) | (simp only [List.length_append]; omega)); (case s_z => with_unfolding_all rfl))); intro _ _)
  k_with "m subscriptTail List" => (k_here; (with_reducible show wpAny _ _ (subscriptTail _ _ (Value.ref _) (Value.int _ _)) _ _ _); k_dflt (first | (refine' sub_list_any ?N_z ?m_z ?a_z ?b_z ?z_z ?s_z ?_; (case N_z => k_asm); (case m_z => k_mem); (case a_z => omega); (case b_z => first | (simp only [List.length_cons, List.length_nil]; omega) | (simp only [List.length_append, List.length_cons, List.length_nil]; omega) | (simp only [List.length_append]; omega)); (case z_z => first | exact Nat.le_of_ble_eq_true rfl | (simp only [List.length_append, List.length_cons, List.length_nil]; omega) | (simp only [List.length_append]; omega)); (case s_z => with_unfolding_all rfl)) | (refine' sub_tup_any ?N_z ?m_z ?a_z ?b_z ?z_z ?s_z ?_; (case N_z => k_asm); (case m_z => k_mem); (case a_z => omega); (case b_z => first | (simp only [List.length_cons, List.length_nil]; omega) | (simp only [List.length_append, List.length_cons, List.length_nil]; omega) | (simp only [List.length_append]; omega)); (case z_z => first | exact Nat.le_of_ble_eq_true rfl | (simp only [List.length_append, List.length_cons, List.length_nil]; omega) | (simp only [List.length_append]; omega)); (case s_z => with_unfolding_all rfl))); intro _ _)
  k_with "m execs cons" => (k_here; (with_reducible show wpAny _ _ _ _ _ (Shared.mk _ _ _ (_ + 1) _)); refine gen_toks ?_; intro (tk : Nat))
  trivial
theorem RowsAre.mono {N N' : Led} {vs : List Value} {rows : List (List Atom)} (h : RowsAre N vs rows) (s : ∀ p ∈ N, p ∈ N') : RowsAre N' vs rows := by
  induction h with
  | nil => exact .nil
  | cons hm ha _ k => exact .cons (s _ hm) ha k
theorem RowsAre.length {N : Led} {vs : List Value} {rows : List (List Atom)} (h : RowsAre N vs rows) : vs.length = rows.length := by
  induction h with
  | nil => rfl
  | cons _ _ _ k => simp only [List.length_cons, k]
theorem RowsAre.get {N : Led} {vs : List Value} {rows : List (List Atom)} (h : RowsAre N vs rows) {v : Value} (hv : v ∈ vs) : ∃ a us as, v = .ref a ∧ (a, tupO us) ∈ N ∧ AtomsAre us as ∧ as ∈ rows := by
  induction h with
  | nil => cases hv
  | cons hm ha _ k =>
    rcases List.mem_cons.mp hv with rfl | hv
    · exact ⟨_, _, _, rfl, hm, ha, List.mem_cons_self⟩
    · obtain ⟨a, us, as, e, h1, h2, h3⟩ := k hv
      exact ⟨a, us, as, e, h1, h2, List.mem_cons_of_mem _ h3⟩
theorem at_s {us : List Value} {x : Str} (h : AtomsAre us [.s x]) : ∃ t, us = [.str x t] := by
  cases h with | s h => cases h; exact ⟨_, rfl⟩
theorem at_si {us : List Value} {x : Str} {n : Int} (h : AtomsAre us [.s x, .i n]) : ∃ t t', us = [.str x t, .int n t'] := by
  cases h with | s h => cases h with | i h => cases h; exact ⟨_, _, rfl⟩
theorem at_cons {us : List Value} {x : Str} {as : List Atom} (h : AtomsAre us (.s x :: as)) : ∃ t vs, us = .str x t :: vs ∧ AtomsAre vs as := by
  cases h with | s h => exact ⟨_, _, rfl, h⟩
theorem at_ssi {us : List Value} {x y : Str} {n : Int} (h : AtomsAre us [.s x, .s y, .i n]) : ∃ t t' t2, us = [.str x t, .str y t', .int n t2] := by
  obtain ⟨t, vs, rfl, k⟩ := at_cons h
  obtain ⟨t', t2, rfl⟩ := at_si k
  exact ⟨_, _, _, rfl⟩
theorem at_sss {us : List Value} {x y z : Str} (h : AtomsAre us [.s x, .s y, .s z]) : ∃ t t' t2, us = [.str x t, .str y t', .str z t2] := by
  obtain ⟨t, v1, rfl, k⟩ := at_cons h
  obtain ⟨t', v2, rfl, k2⟩ := at_cons k
  obtain ⟨t2, rfl⟩ := at_s k2
  exact ⟨_, _, _, rfl⟩
theorem at_sssi {us : List Value} {x y z : Str} {n : Int} (h : AtomsAre us [.s x, .s y, .s z, .i n]) : ∃ t t' t2 t3, us = [.str x t, .str y t', .str z t2, .int n t3] := by
  obtain ⟨t, vs, rfl, k⟩ := at_cons h
  obtain ⟨t', t2, t3, rfl⟩ := at_ssi k
  exact ⟨_, _, _, _, rfl⟩
inductive AtomE : List PySem.Expr → List Atom → Prop
  | nil : AtomE [] []
  | s {x k p r as} (h : AtomE r as) : AtomE (.Constant (.str x) k p :: r) (.s x :: as)
  | i {n k p r as} (h : AtomE r as) : AtomE (.Constant (.int n) k p :: r) (.i n :: as)
inductive RowE : List PySem.Expr → List (List Atom) → Prop
  | nil : RowE [] []
  | cons {es as k p r rows} (ha : AtomE es as) (hz : Nat.ble as.length 16 = true) (h : RowE r rows) : RowE (.Tuple es k p :: r) (as :: rows)
theorem AtomsAre.length {vs : List Value} {as : List Atom} (h : AtomsAre vs as) : vs.length = as.length := by
  induction h with
  | nil => rfl
  | s _ k => simp only [List.length_cons, k]
  | i _ k => simp only [List.length_cons, k]
section
variable {prog : Program} {w : World} {A : Around} {E : Value → Shared → Prop} {h₀ : Heap} {L : Addr} {m : Str → Option Value} {env : PySem.Env}
theorem eval_atoms {es : List PySem.Expr} {as : List Atom} {pos : Pos} (h : AtomE es as) : ∀ {s : Shared} {Q : List Value → Shared → Prop}, (∀ vs tk, AtomsAre vs as → Q vs { s with toks := tk }) → wpAny (model prog w) A (spliced (backTo pos (starEach es env))) Q E s := by
  induction h with
  | nil => exact fun {s _} k => args_nil (k [] s.toks .nil)
  | s _ ih => exact fun k => args_cons (Constant_str (ih fun vs tk hv => k _ _ (.s hv))) rfl
  | i _ ih => exact fun k => args_cons (wpAny_Constant_int (ih fun vs tk hv => k _ _ (.i hv))) rfl
theorem eval_rows {es : List PySem.Expr} {rows : List (List Atom)} {pos : Pos} (h : RowE es rows) : ∀ {s : Shared} {news : Led} {Q : List Value → Shared → Prop}, Fr h₀ L s.heap m → News h₀ L s.heap news →
    (∀ vs tl h' tk, Fr h₀ L h' m → News h₀ L h' (tl ++ news) → (∀ q ∈ tl, ∀ p ∈ news, @LT.lt Nat _ p.1 q.1) → RowsAre tl vs rows → Q vs { s with heap := h', toks := tk }) → wpAny (model prog w) A (spliced (backTo pos (starEach es env))) Q E s := by
  induction h with
  | nil => exact fun {s _ _} F N k => args_nil (k [] [] s.heap s.toks F N (fun _ h => absurd h List.not_mem_nil) .nil)
  | cons ha hz _ ih =>
    intro s news Q F N k
    refine args_cons (Tuple_ (eval_atoms ha fun us tk hus => kup_newTuple F N (fun D h' F' N' lt => ih F' N' fun vs tl h'' tk'' F'' N'' lt' hrows => k (.ref D :: vs) (tl ++ [(D, tupO us)]) h'' tk'' F'' ?_ (fun q hq p hp => ?_) (.cons (List.mem_append_right _ List.mem_cons_self) hus (hrows.mono fun _ hp => List.mem_append_left _ hp))) ?_)) rfl
    · rw [List.append_assoc]; exact N''
    · rcases List.mem_append.mp hq with hq | hq
      · exact lt' q hq p (List.mem_cons_of_mem _ hp)
      · rw [List.mem_singleton.mp hq]; exact lt p hp
    · rw [hus.length, sizeLine_eq]
      exact Nat.le_trans (Nat.le_of_ble_eq_true hz) (Nat.le_of_ble_eq_true rfl)
theorem eval_list {es : List PySem.Expr} {rows : List (List Atom)} {pos : Pos} {s : Shared} {news : Led} {Q : Value → Shared → Prop} (h : RowE es rows) (hz2 : Nat.ble rows.length 16 = true) (F : Fr h₀ L s.heap m) (N : News h₀ L s.heap news)
    (k : ∀ D vs tl h' tk, Fr h₀ L h' m → News h₀ L h' ((D, PySem.W.listOf vs.toArray 0) :: (tl ++ news)) → (∀ p ∈ tl ++ news, @LT.lt Nat _ p.1 D) → (∀ q ∈ tl, ∀ p ∈ news, @LT.lt Nat _ p.1 q.1) → RowsAre tl vs rows → vs.length = rows.length → Q (.ref D) { s with heap := h', toks := tk }) :
    wpAny (model prog w) A (eval (.List es pos) env) Q E s :=
  List_ (eval_rows h F N fun vs tl _ _ F' N' lt hr => newList_K F' N' (fun D h' F'' N'' lt' => k D vs tl h' _ F'' N'' lt' lt hr hr.length) (by rw [hr.length, sizeLine_eq]; exact Nat.le_trans (Nat.le_of_ble_eq_true hz2) (Nat.le_of_ble_eq_true rfl)))
end
theorem add_led {prog : Program} {w : World} {A : Around} {E : Value → Shared → Prop} {s : Shared} {h₀ : Heap} {L a b : Addr} {m : Str → Option Value} {news : Led} {vs us : List Value} {n n' : Nat} {Q : Value → Shared → Prop}
    (F : Fr h₀ L s.heap m) (N : News h₀ L s.heap news) (ha : (a, PySem.W.listOf vs.toArray n) ∈ news) (hb : (b, PySem.W.listOf us.toArray n') ∈ news) (hz : vs.length + us.length ≤ 100000)
    (h : ∀ D h', Fr h₀ L h' m → News h₀ L h' ((D, PySem.W.listOf (vs ++ us).toArray 0) :: news) → (∀ p ∈ news, @LT.lt Nat _ p.1 D) → Q (.ref D) { s with heap := h' }) : wpAny (model prog w) A (binaryOp .Add (.ref a) (.ref b)) Q E s :=
  kmk_add_lit F N (PySem.IsL.isList (n := n) (N _ ha).1) (PySem.IsL.isList (n := n') (N _ hb).1) rfl h (by rw [sizeLine_eq]; show vs.length + us.length ≤ _; omega)
theorem Abv.of {b : Addr} {o : Obj} {news tl : Led} (h : ∀ q ∈ tl, ∀ p ∈ news, @LT.lt Nat _ p.1 q.1) (m : (b, o) ∈ news) : Abv b news tl := ⟨fun q hq => h q hq _ m, h⟩

inductive Ask where
  | leaf (i : Nat)
  | not (a : Ask)
  | and (a b : Ask)
  | or (a b : Ask)
def Ask.dep : Ask → Nat
  | .leaf _ => 0
  | .not a => a.dep + 1
  | .and a b => max a.dep b.dep + 1
  | .or a b => max a.dep b.dep + 1

inductive AskIs (N : Led) : Value → Ask → Prop
  | has {a t1 t2} (h : (a, tupO [.str "has" t1, .int 7 t2]) ∈ N) : AskIs N (.ref a) (.leaf 0)
  | first {a t1 t2} (h : (a, tupO [.str "first" t1, .int 8 t2]) ∈ N) : AskIs N (.ref a) (.leaf 1)
  | many {a t1 t2 t3 t4} (h : (a, tupO [.str "compare" t1, .str "as-length" t2, .str ">" t3, .int 1 t4]) ∈ N) : AskIs N (.ref a) (.leaf 2)
  | origin {a t1 t2} (h : (a, tupO [.str "origin" t1, .int 0 t2]) ∈ N) : AskIs N (.ref a) (.leaf 3)
  | peer {a t1 t2 t3 t4} (h : (a, tupO [.str "compare" t1, .str "peer-as" t2, .str "!=" t3, .int 3 t4]) ∈ N) : AskIs N (.ref a) (.leaf 4)
  | prefix {a a2 t1 t2 t3 t4 t5 i} (h : (a, tupO [.str "prefix" t1, .ref a2, .int 16 t2, .int 32 t3]) ∈ N) (h2 : (a2, tupO [.int i t4, .int 8 t5]) ∈ N) (hi : i = 167772160) : AskIs N (.ref a) (.leaf 5)
  | short {a t1 t2 t3 t4} (h : (a, tupO [.str "compare" t1, .str "length" t2, .str "<" t3, .int 20 t4]) ∈ N) : AskIs N (.ref a) (.leaf 6)
  | tru {a t1} (h : (a, tupO [.str "true" t1]) ∈ N) : AskIs N (.ref a) (.leaf 7)
  | not {a t1 v x} (h : (a, tupO [.str "not" t1, v]) ∈ N) (k : AskIs N v x) : AskIs N (.ref a) (.not x)
  | and {a t1 v v' x y} (h : (a, tupO [.str "and" t1, v, v']) ∈ N) (k : AskIs N v x) (k' : AskIs N v' y) : AskIs N (.ref a) (.and x y)
  | or {a t1 v v' x y} (h : (a, tupO [.str "or" t1, v, v']) ∈ N) (k : AskIs N v x) (k' : AskIs N v' y) : AskIs N (.ref a) (.or x y)
theorem kwasked3 : True := by
  k_with_none
  k_with "m call builtin:len" => (k_here; (with_reducible show wpAny _ _ (call (Value.builtin "len") [Value.ref _]) _ _ _); k_dflt (refine' len_led ?k1_z ?k2_z ?k3_z ?k4_z ?_; (case k1_z => k_asm); (case k2_z => k_mem); (case k3_z => with_reducible assumption); (case k4_z => omega)))
  k_with "m ite" => (k_closed; with_reducible (first | refine ite_tt ?_ | refine ite_ff ?_ | refine PySem.W.ite_neg (by decide) ?_ | refine PySem.W.ite_pos (by decide) ?_))
  k_with "m subscriptTail" => (k_here; (with_reducible show wpAny _ _ (subscriptTail _ _ (Value.ref _) (Value.int _ _)) _ _ _); k_dflt (first | (refine' sub_list ?N_z ?m_z ?a_z ?b_z ?x_z ?s_z ?_; (case N_z => k_asm); (case m_z => k_mem); (case a_z => decide); (case b_z => decide); (case x_z => rfl); (case s_z => with_unfolding_all rfl)) | (refine' sub_tup ?N_z ?m_z ?a_z ?b_z ?j_z ?x_z ?s_z ?_; (case N_z => k_asm); (case m_z => k_mem); (case a_z => decide); (case b_z => decide); (case j_z => rfl); (case x_z => rfl); (case s_z => with_unfolding_all rfl))))
  k_with "m subscriptTail Name Call ref int" => (k_here; (with_reducible show wpAny _ _ (subscriptTail _ _ (Value.ref _) (Value.int _ _)) _ _ _); k_dflt (first | (refine' sub_list_any ?N_z ?m_z ?a_z ?b_z ?z_z ?s_z ?_; (case N_z => k_asm); (case m_z => k_mem); (case a_z => omega); (case b_z => first | (simp only [List.length_cons, List.length_nil]; omega) | (simp only [List.length_append, List.length_cons, List.length_nil]; omega) | (simp only [List.length_append]; omega)); (case z_z => first | exact Nat.le_of_ble_eq_true rfl | (simp only [List.length_append, List.length_cons, List.length_nil]; omega) | (simp only [List.length_append]; omega)); (case s_z => with_unfolding_all rfl)) | (refine' sub_tup_any ?N_z ?m_z ?a_z ?b_z ?z_z ?s_z ?_; (case N_z => k_asm); (case m_z => k_mem); (case a_z => omega); (case b_z => first | (simp only [List.length_cons, List.length_nil]; omega) | (simp only [List.length_append, List.length_cons, List.length_nil]; omega) | (simp only [List.length_append]; omega)); (case z_z => first | exact Nat.le_of_ble_eq_true rfl | (simp only [List.length_append, List.length_cons, List.length_nil]; omega) | (simp only [List.length_append]; omega)); (case s_z => with_unfolding_all rfl))); intro _ _)
  k_with "m subscriptTail Tuple" => (k_here; (with_reducible show wpAny _ _ (subscriptTail _ _ (Value.ref _) (Value.int _ _)) _ _ _); k_dflt (first | (refine' sub_list_any ?N_z ?m_z ?a_z ?b_z ?z_z ?s_z ?_; (case N_z => k_asm); (case m_z => k_mem); (case a_z => omega); (case b_z => first | (simp only [List.length_cons, List.length_nil]; omega) | (simp only [List.length_append, List.length_cons, List.length_nil]; omega) | (simp only [List.length_append]; omega)); (case z_z => first | exact Nat.le_of_ble_eq_true rfl | (simp only [List.length_append, List.length_cons, List.length_nil]; omega) | (simp only [List.length_append]; omega)); (case s_z => with_unfolding_all rfl)) | (refine' sub_tup_any ?N_z ?m_z ?a_z ?b_z ?z_z ?s_z ?_; (case N_z => k_asm); (case m_z => k_mem); (case a_z => omega); (case b_z => first | (simp only [List.length_cons, List.length_nil]; omega) | (simp only [List.length_append, List.length_cons, List.length_nil]; omega) | (simp only [List.length_append]; omega)); (case z_z => first | exact Nat.le_of_ble_eq_true rfl | (simp only [List.length_append, List.length_cons, List.length_nil]; omega) | (simp only [List.length_append]; omega)); (case s_z => with_unfolding_all rfl))); intro _ _)
  k_with "m subscriptTail List" => (k_here; (with_reducible show wpAny _ _ (subscriptTail _ _ (Value.ref _) (Value.int _ _)) _ _ _); k_dflt (first | (refine' sub_list_any ?N_z ?m_z ?a_z ?b_z ?z_z ?s_z ?_; (case N_z => k_asm); (case m_z => k_mem); (case a_z => omega); (case b_z => first | (simp only [List.length_cons, List.length_nil]; omega) | (simp only [List.length_append, List.length_cons, List.length_nil]; omega) | (simp only [List.length_append]; omega)); (case z_z => first | exact Nat.le_of_ble_eq_true rfl | (simp only [List.length_append, List.length_cons, List.length_nil]; omega) | (simp only [List.length_append]; omega)); (case s_z => with_unfolding_all rfl)) | (refine' sub_tup_any ?N_z ?m_z ?a_z ?b_z ?z_z ?s_z ?_; (case N_z => k_asm); (case m_z => k_mem); (case a_z => omega); (case b_z => first | (simp only [List.length_cons, List.length_nil]; omega) | (simp only [List.length_append, List.length_cons, List.length_nil]; omega) | (simp only [List.length_append]; omega)); (case z_z => first | exact Nat.le_of_ble_eq_true rfl | (simp only [List.length_append, List.length_cons, List.length_nil]; omega) | (simp only [List.length_append]; omega)); (case s_z => with_unfolding_all rfl))); intro _ _)
  k_with "m execs cons" => (k_here; (with_reducible show wpAny _ _ _ _ _ (Shared.mk _ _ _ (_ + 1) _)); refine gen_toks ?_; intro (tk : Nat))
  trivial
theorem AskIs.mono {N N' : Led} {v : Value} {x : Ask} (h : AskIs N v x) (s : ∀ p ∈ N, p ∈ N') : AskIs N' v x := by
  induction h with
  | has h => exact .has (s _ h)
  | first h => exact .first (s _ h)
  | many h => exact .many (s _ h)
  | origin h => exact .origin (s _ h)
  | peer h => exact .peer (s _ h)
  | «prefix» h h2 i => exact .prefix (s _ h) (s _ h2) i
  | short h => exact .short (s _ h)
  | tru h => exact .tru (s _ h)
  | not h _ k => exact .not (s _ h) k
  | and h _ _ k k' => exact .and (s _ h) k k'
  | or h _ _ k k' => exact .or (s _ h) k k'

def askRows : List (List Atom) := [[.s "has", .i 7], [.s "first", .i 8], [.s "compare", .s "as-length", .s ">", .i 1], [.s "origin", .i 0], [.s "compare", .s "peer-as", .s "!=", .i 3]]
theorem ask_rows {tl : Led} {vs : List Value} {v : Value} (h : RowsAre tl vs askRows) (hv : v ∈ vs) : ∃ q : Ask, q.dep = 0 ∧ AskIs tl v q := by
  obtain ⟨a, us, as, rfl, hm, ha, hr⟩ := h.get hv
  simp only [askRows, List.mem_cons, List.mem_nil_iff, or_false] at hr
  rcases hr with rfl | rfl | rfl | rfl | rfl
  · obtain ⟨_, _, rfl⟩ := at_si ha; exact ⟨_, rfl, .has hm⟩
  · obtain ⟨_, _, rfl⟩ := at_si ha; exact ⟨_, rfl, .first hm⟩
  · obtain ⟨_, _, _, _, rfl⟩ := at_sssi ha; exact ⟨_, rfl, .many hm⟩
  · obtain ⟨_, _, rfl⟩ := at_si ha; exact ⟨_, rfl, .origin hm⟩
  · obtain ⟨_, _, _, _, rfl⟩ := at_sssi ha; exact ⟨_, rfl, .peer hm⟩

section

theorem kwasked4 : True := by
  k_with_none
  k_with "m call builtin:len" => (k_here; (with_reducible show wpAny _ _ (call (Value.builtin "len") [Value.ref _]) _ _ _); k_dflt (refine' len_led ?k1_z ?k2_z ?k3_z ?k4_z ?_; (case k1_z => k_asm); (case k2_z => k_mem); (case k3_z => with_reducible assumption); (case k4_z => omega)))
  k_with "m ite" => (k_closed; with_reducible (first | refine ite_tt ?_ | refine ite_ff ?_ | refine PySem.W.ite_neg (by decide) ?_ | refine PySem.W.ite_pos (by decide) ?_))
  k_with "m subscriptTail" => (k_here; (with_reducible show wpAny _ _ (subscriptTail _ _ (Value.ref _) (Value.int _ _)) _ _ _); k_dflt (first | (refine' sub_list ?N_z ?m_z ?a_z ?b_z ?x_z ?s_z ?_; (case N_z => k_asm); (case m_z => k_mem); (case a_z => decide); (case b_z => decide); (case x_z => rfl); (case s_z => with_unfolding_all rfl)) | (refine' sub_tup ?N_z ?m_z ?a_z ?b_z ?j_z ?x_z ?s_z ?_; (case N_z => k_asm); (case m_z => k_mem); (case a_z => decide); (case b_z => decide); (case j_z => rfl); (case x_z => rfl); (case s_z => with_unfolding_all rfl))))
  k_with "m subscriptTail Name Call ref int" => (k_here; (with_reducible show wpAny _ _ (subscriptTail _ _ (Value.ref _) (Value.int _ _)) _ _ _); k_dflt (first | (refine' sub_list_any ?N_z ?m_z ?a_z ?b_z ?z_z ?s_z ?_; (case N_z => k_asm); (case m_z => k_mem); (case a_z => omega); (case b_z => first | (simp only [List.length_cons, List.length_nil]; omega) | (simp only [List.length_append, List.length_cons, List.length_nil]; omega) | (simp only [List.length_append]; omega)); (case z_z => first | exact Nat.le_of_ble_eq_true rfl | (simp only [List.length_append, List.length_cons, List.length_nil]; omega) | (simp only [List.length_append]; omega)); (case s_z => with_unfolding_all rfl)) | (refine' sub_tup_any ?N_z ?m_z ?a_z ?b_z ?z_z ?s_z ?_; (case N_z => k_asm); (case m_z => k_mem); (case a_z => omega); (case b_z => first | (simp only [List.length_cons, List.length_nil]; omega) | (simp only [List.length_append, List.length_cons, List.length_nil]; omega) | (simp only [List.length_append]; omega)); (case z_z => first | exact Nat.le_of_ble_eq_true rfl | (simp only [List.length_append, List.length_cons, List.length_nil]; omega) | (simp only [List.length_append]; omega)); (case s_z => with_unfolding_all rfl))); intro _ _)
  k_with "m subscriptTail Tuple" => (k_here; (with_reducible show wpAny _ _ (subscriptTail _ _ (Value.ref _) (Value.int _ _)) _ _ _); k_dflt (first | (refine' sub_list_any ?N_z ?m_z ?a_z ?b_z ?z_z ?s_z ?_; (case N_z => k_asm); (case m_z => k_mem); (case a_z => omega); (case b_z => first | (simp only [List.length_cons, List.length_nil]; omega) | (simp only [List.length_append, List.length_cons, List.length_nil]; omega) | (simp only [List.length_append]; omega)); (case z_z => first | exact Nat.le_of_ble_eq_true rfl | (simp only [List.length_append, List.length_cons, List.length_nil]; omega) | (simp only [List.length_append]; omega)); (case s_z => with_unfolding_all rfl)) | (refine' sub_tup_any ?N_z ?m_z ?a_z ?b_z ?z_z ?s_z ?_; (case N_z => k_asm); (case m_z => k_mem); (case a_z => omega); (case b_z => first | (simp only [List.length_cons, List.length_nil]; omega) | (simp only [List.length_append, List.length_cons, List.length_nil]; omega) | (simp only [List.length_append]; omega)); (case z_z => first | exact Nat.le_of_ble_eq_true rfl | (simp only [List.length_append, List.length_cons, List.length_nil]; omega) | (simp only [List.length_append]; omega)); (case s_z => with_unfolding_all rfl))); intro _ _)
  k_with "m subscriptTail List" => (k_here; (with_reducible show wpAny _ _ (subscriptTail _ _ (Value.ref _) (Value.int _ _)) _ _ _); k_dflt (first | (refine' sub_list_any ?N_z ?m_z ?a_z ?b_z ?z_z ?s_z ?_; (case N_z => k_asm); (case m_z => k_mem); (case a_z => omega); (case b_z => first | (simp only [List.length_cons, List.length_nil]; omega) | (simp only [List.length_append, List.length_cons, List.length_nil]; omega) | (simp only [List.length_append]; omega)); (case z_z => first | exact Nat.le_of_ble_eq_true rfl | (simp only [List.length_append, List.length_cons, List.length_nil]; omega) | (simp only [List.length_append]; omega)); (case s_z => with_unfolding_all rfl)) | (refine' sub_tup_any ?N_z ?m_z ?a_z ?b_z ?z_z ?s_z ?_; (case N_z => k_asm); (case m_z => k_mem); (case a_z => omega); (case b_z => first | (simp only [List.length_cons, List.length_nil]; omega) | (simp only [List.length_append, List.length_cons, List.length_nil]; omega) | (simp only [List.length_append]; omega)); (case z_z => first | exact Nat.le_of_ble_eq_true rfl | (simp only [List.length_append, List.length_cons, List.length_nil]; omega) | (simp only [List.length_append]; omega)); (case s_z => with_unfolding_all rfl))); intro _ _)
  k_with "m execs cons" => (k_here; (with_reducible show wpAny _ _ _ _ _ (Shared.mk _ _ _ (_ + 1) _)); refine gen_toks ?_; intro (tk : Nat))
  k_with "m call ref" => (k_here; (with_reducible show wpAny _ _ (call (Value.ref 130) _) _ _ _); first | (k_dflt (refine' ct_use (draw_ct ?hI_z ?hlen_z ?hl_z ?hb_z ?hm_z ?hm2_z ?h0_z ?h1_z) ?B_z ?F_z ?X_z (newsPull ?N_z ?U_z) ?T_z ?hk_z ?hd_z ?hu_z ?_; (case N_z => k_asm); (case U_z => (repeat (first | exact Pull.here | apply Pull.there | apply Pull.app))); (case B_z => k_asm); (case F_z => k_asm); (case X_z => k_asm); (case T_z => k_asm); (case hk_z => first | exact rfl | assumption); (case hd_z => (first | omega | (simp only [depth_caller, depth_deeper]; decide) | ((have hcL9 := cLine_is); (simp only [units_caller, units_deeper, Around.mark_units]); omega) | ((try simp only [depth_deeper, units_deeper, depth_in1, units_in1]); omega) | fail "room")); (case hu_z => (first | omega | (simp only [depth_caller, depth_deeper]; decide) | ((have hcL9 := cLine_is); (simp only [units_caller, units_deeper, Around.mark_units]); omega) | ((try simp only [depth_deeper, units_deeper, depth_in1, units_in1]); omega) | fail "room")); (case hl_z => k_mem); (case hI_z => assumption); (case hlen_z => assumption); (case hb_z => (repeat' (first | assumption | refine List.forall_mem_cons.mpr ⟨?_, ?_⟩ | refine List.forall_mem_append.mpr ⟨?_, ?_⟩ | exact List.forall_mem_nil _ | exact ne_of_abv1 (by assumption) | exact ne_of_abv2 (by assumption) (by k_mem) | exact ne_of_all (by assumption) (by k_mem) | exact ne_of_low1 (by assumption) (by k_mem) | exact ne_of_low (by assumption) (by (repeat' (first | assumption | exact List.forall_mem_nil _ | refine sub_app ?_ ?_ | refine sub_cons ?_ ?_ | k_mem | (intro _ _; k_mem))))))); (case hm_z => decide); (case hm2_z => decide); (case h0_z => omega); (case h1_z => omega)); intro _ _ _ _ _ _ P9; obtain ⟨_, _, _, e9, _, _, en9⟩ := P9; subst e9; subst en9; (try dsimp only)) | refine stop_of ?_)
  k_with "m eval List" => (k_here; (with_reducible show wpAny _ _ (eval (PySem.Expr.List _ _) _) _ _ _); k_dflt (refine' eval_list ?r_z ?z_z ?F_z ?N_z ?_; (case r_z => (repeat' (first | exact RowE.nil | exact AtomE.nil | refine' RowE.cons ?_ ?_ ?_ | refine' AtomE.s ?_ | refine' AtomE.i ?_ | exact rfl))); (case z_z => exact rfl); (case F_z => k_asm); (case N_z => k_asm); intro _ _ _ _ _ _ _ _ lt9 _ hn9; simp only [List.length_cons, List.length_nil] at hn9; have ab9 := Abv.of (b := b) lt9 (by k_mem); have ab9' := ab9.1); (try k_sweep))
  k_with "m binaryOp Add ref ref" => (k_here; (with_reducible show wpAny _ _ (binaryOp _ (Value.ref _) (Value.ref _)) _ _ _); k_dflt (refine' add_led ?F_z ?N_z ?a_z ?b_z ?z_z ?_; (case F_z => k_asm); (case N_z => k_asm); (case a_z => k_mem); (case b_z => k_mem); (case z_z => first | omega | (simp only [List.length_cons, List.length_nil]; omega))); intro _ _ _ _ _; (try k_sweep))
  trivial
theorem asked0_ct {w : World} {b l : Addr} {n n' : Nat} {sp z : Int} {t : Tok} {vs : List Value} {ns : List Int} {tm : Tok} {news : Led}
    (hI : IntsAre vs ns) (hlen : ns.length ≤ 48) (hl : (l, PySem.W.listOf vs.toArray n') ∈ news) (hb : ∀ q ∈ news, q.1 ≠ b) (h0 : 0 ≤ sp) (h1 : sp ≤ 900) (hz : z = 0) :
    Ct w 137 [.ref b, .int z tm] 30 300 ((b, boxO l n sp t) :: news) (BoxPost b l n sp 1 news fun N r => ∃ a : Ask, a.dep = 0 ∧ AskIs N r a) := by
  subst hz
  unfold Ct
  k_fill
  intro mean mg mb dp un gd cn cs a ccd cl outer A₀ base h₀ L m s Q E B F X N T hk hd hu hret
  refine wpAny_call ?_
  k_dflt ktr_enter
  k_steps
  all_goals (refine box_end (by assumption) (by k_asm) (by k_asm) (by (repeat (first | exact Pull.here | apply Pull.there | apply Pull.app))) (by (repeat (first | exact Spl.nil | apply Spl.cons | apply Spl.app))) (by (repeat' (first | exact Abv.nil | refine Abv.cons ?_ ?_ ?_ | (refine Abv.app (by assumption) ?_ ?_) | assumption | exact lt_of_all (by assumption) (by k_mem) | (exact all_sub (by assumption) (fun _ _ => by k_mem)) | (intro p9 hp9; k_mem)))) (by omega) (by omega) ?_)
  · rename (_ ∈ (_ : List Value)) => hv
    rcases List.mem_append.mp hv with hv | hv
    · obtain ⟨q, hq, h⟩ := ask_rows (by assumption) hv
      exact ⟨q, by omega, h.mono (by (repeat' (first | assumption | exact List.forall_mem_nil _ | refine sub_app ?_ ?_ | refine sub_cons ?_ ?_ | k_mem | (intro _ _; k_mem))))⟩
    · simp only [List.mem_cons, List.mem_nil_iff, or_false] at hv
      rcases hv with rfl | rfl | rfl
      · exact ⟨_, by decide, .prefix (by k_mem) (by k_mem) (by decide)⟩
      · exact ⟨_, by decide, .short (by k_mem)⟩
      · exact ⟨_, by decide, .tru (by k_mem)⟩
end

section

theorem kwasked15 : True := by
  k_with_none
  k_with "m call builtin:len" => (k_here; (with_reducible show wpAny _ _ (call (Value.builtin "len") [Value.ref _]) _ _ _); k_dflt (refine' len_led ?k1_z ?k2_z ?k3_z ?k4_z ?_; (case k1_z => k_asm); (case k2_z => k_mem); (case k3_z => with_reducible assumption); (case k4_z => omega)))
  k_with "m ite" => (k_closed; with_reducible (first | refine ite_tt ?_ | refine ite_ff ?_ | refine PySem.W.ite_neg (by decide) ?_ | refine PySem.W.ite_pos (by decide) ?_))
  k_with "m subscriptTail" => (k_here; (with_reducible show wpAny _ _ (subscriptTail _ _ (Value.ref _) (Value.int _ _)) _ _ _); k_dflt (first | (refine' sub_list ?N_z ?m_z ?a_z ?b_z ?x_z ?s_z ?_; (case N_z => k_asm); (case m_z => k_mem); (case a_z => decide); (case b_z => decide); (case x_z => rfl); (case s_z => with_unfolding_all rfl)) | (refine' sub_tup ?N_z ?m_z ?a_z ?b_z ?j_z ?x_z ?s_z ?_; (case N_z => k_asm); (case m_z => k_mem); (case a_z => decide); (case b_z => decide); (case j_z => rfl); (case x_z => rfl); (case s_z => with_unfolding_all rfl))))
  k_with "m subscriptTail Name Call ref int" => (k_here; (with_reducible show wpAny _ _ (subscriptTail _ _ (Value.ref _) (Value.int _ _)) _ _ _); k_dflt (first | (refine' sub_list_any ?N_z ?m_z ?a_z ?b_z ?z_z ?s_z ?_; (case N_z => k_asm); (case m_z => k_mem); (case a_z => omega); (case b_z => first | (simp only [List.length_cons, List.length_nil]; omega) | (simp only [List.length_append, List.length_cons, List.length_nil]; omega) | (simp only [List.length_append]; omega)); (case z_z => first | exact Nat.le_of_ble_eq_true rfl | (simp only [List.length_append, List.length_cons, List.length_nil]; omega) | (simp only [List.length_append]; omega)); (case s_z => with_unfolding_all rfl)) | (refine' sub_tup_any ?N_z ?m_z ?a_z ?b_z ?z_z ?s_z ?_; (case N_z => k_asm); (case m_z => k_mem); (case a_z => omega); (case b_z => first | (simp only [List.length_cons, List.length_nil]; omega) | (simp only [List.length_append, List.length_cons, List.length_nil]; omega) | (simp only [List.length_append]; omega)); (case z_z => first | exact Nat.le_of_ble_eq_true rfl | (simp only [List.length_append, List.length_cons, List.length_nil]; omega) | (simp only [List.length_append]; omega)); (case s_z => with_unfolding_all rfl))); intro _ _)
  k_with "m subscriptTail Tuple" => (k_here; (with_reducible show wpAny _ _ (subscriptTail _ _ (Value.ref _) (Value.int _ _)) _ _ _); k_dflt (first | (refine' sub_list_any ?N_z ?m_z ?a_z ?b_z ?z_z ?s_z ?_; (case N_z => k_asm); (case m_z => k_mem); (case a_z => omega); (case b_z => first | (simp only [List.length_cons, List.length_nil]; omega) | (simp only [List.length_append, List.length_cons, List.length_nil]; omega) | (simp only [List.length_append]; omega)); (case z_z => first | exact Nat.le_of_ble_eq_true rfl | (simp only [List.length_append, List.length_cons, List.length_nil]; omega) | (simp only [List.length_append]; omega)); (case s_z => with_unfolding_all rfl)) | (refine' sub_tup_any ?N_z ?m_z ?a_z ?b_z ?z_z ?s_z ?_; (case N_z => k_asm); (case m_z => k_mem); (case a_z => omega); (case b_z => first | (simp only [List.length_cons, List.length_nil]; omega) | (simp only [List.length_append, List.length_cons, List.length_nil]; omega) | (simp only [List.length_append]; omega)); (case z_z => first | exact Nat.le_of_ble_eq_true rfl | (simp only [List.length_append, List.length_cons, List.length_nil]; omega) | (simp only [List.length_append]; omega)); (case s_z => with_unfolding_all rfl))); intro _ _)
  k_with "m subscriptTail List" => (k_here; (with_reducible show wpAny _ _ (subscriptTail _ _ (Value.ref _) (Value.int _ _)) _ _ _); k_dflt (first | (refine' sub_list_any ?N_z ?m_z ?a_z ?b_z ?z_z ?s_z ?_; (case N_z => k_asm); (case m_z => k_mem); (case a_z => omega); (case b_z => first | (simp only [List.length_cons, List.length_nil]; omega) | (simp only [List.length_append, List.length_cons, List.length_nil]; omega) | (simp only [List.length_append]; omega)); (case z_z => first | exact Nat.le_of_ble_eq_true rfl | (simp only [List.length_append, List.length_cons, List.length_nil]; omega) | (simp only [List.length_append]; omega)); (case s_z => with_unfolding_all rfl)) | (refine' sub_tup_any ?N_z ?m_z ?a_z ?b_z ?z_z ?s_z ?_; (case N_z => k_asm); (case m_z => k_mem); (case a_z => omega); (case b_z => first | (simp only [List.length_cons, List.length_nil]; omega) | (simp only [List.length_append, List.length_cons, List.length_nil]; omega) | (simp only [List.length_append]; omega)); (case z_z => first | exact Nat.le_of_ble_eq_true rfl | (simp only [List.length_append, List.length_cons, List.length_nil]; omega) | (simp only [List.length_append]; omega)); (case s_z => with_unfolding_all rfl))); intro _ _)
  k_with "m execs cons" => (k_here; (with_reducible show wpAny _ _ _ _ _ (Shared.mk _ _ _ (_ + 1) _)); refine gen_toks ?_; intro (tk : Nat))
  k_with "m call ref" => ((k_here; (with_reducible show wpAny _ _ (call (Value.ref 130) _) _ _ _); first | (k_dflt (refine' ct_use (draw_ct ?hI_z ?hlen_z ?hl_z ?hb_z ?hm_z ?hm2_z ?h0_z ?h1_z) ?B_z ?F_z ?X_z (newsPull ?N_z ?U_z) ?T_z ?hk_z ?hd_z ?hu_z ?_; (case N_z => k_asm); (case U_z => (repeat (first | exact Pull.here | apply Pull.there | apply Pull.app))); (case B_z => k_asm); (case F_z => k_asm); (case X_z => k_asm); (case T_z => k_asm); (case hk_z => first | exact rfl | assumption); (case hd_z => (first | omega | (simp only [depth_caller, depth_deeper]; decide) | ((have hcL9 := cLine_is); (simp only [units_caller, units_deeper, Around.mark_units]); omega) | ((try simp only [depth_deeper, units_deeper, depth_in1, units_in1]); omega) | fail "room")); (case hu_z => (first | omega | (simp only [depth_caller, depth_deeper]; decide) | ((have hcL9 := cLine_is); (simp only [units_caller, units_deeper, Around.mark_units]); omega) | ((try simp only [depth_deeper, units_deeper, depth_in1, units_in1]); omega) | fail "room")); (case hl_z => k_mem); (case hI_z => assumption); (case hlen_z => assumption); (case hb_z => (repeat' (first | assumption | refine List.forall_mem_cons.mpr ⟨?_, ?_⟩ | refine List.forall_mem_append.mpr ⟨?_, ?_⟩ | exact List.forall_mem_nil _ | exact ne_of_abv1 (by assumption) | exact ne_of_abv2 (by assumption) (by k_mem) | exact ne_of_all (by assumption) (by k_mem) | exact ne_of_low1 (by assumption) (by k_mem) | exact ne_of_low (by assumption) (by (repeat' (first | assumption | exact List.forall_mem_nil _ | refine sub_app ?_ ?_ | refine sub_cons ?_ ?_ | k_mem | (intro _ _; k_mem))))))); (case hm_z => decide); (case hm2_z => decide); (case h0_z => omega); (case h1_z => omega)); intro _ _ _ _ _ _ P9; obtain ⟨_, _, _, e9, _, _, en9⟩ := P9; subst e9; subst en9; (try dsimp only)) | refine stop_of ?_))
  k_with "m eval List" => (k_here; (with_reducible show wpAny _ _ (eval (PySem.Expr.List _ _) _) _ _ _); k_dflt (refine' eval_list ?r_z ?z_z ?F_z ?N_z ?_; (case r_z => (repeat' (first | exact RowE.nil | exact AtomE.nil | refine' RowE.cons ?_ ?_ ?_ | refine' AtomE.s ?_ | refine' AtomE.i ?_ | exact rfl))); (case z_z => exact rfl); (case F_z => k_asm); (case N_z => k_asm); intro _ _ _ _ _ _ _ _ lt9 _ hn9; simp only [List.length_cons, List.length_nil] at hn9; have ab9 := Abv.of (b := b) lt9 (by k_mem); have ab9' := ab9.1); (try k_sweep))
  k_with "m binaryOp Add ref ref" => (k_here; (with_reducible show wpAny _ _ (binaryOp _ (Value.ref _) (Value.ref _)) _ _ _); k_dflt (refine' add_led ?F_z ?N_z ?a_z ?b_z ?z_z ?_; (case F_z => k_asm); (case N_z => k_asm); (case a_z => k_mem); (case b_z => k_mem); (case z_z => first | omega | (simp only [List.length_cons, List.length_nil]; omega))); intro _ _ _ _ _; (try k_sweep))
  k_with "m call ref" => (k_here; (with_reducible show wpAny _ _ (call (Value.ref 137) _) _ _ _); first | (k_dflt (refine' ct_use (asked0_ct ?hI_z ?hlen_z ?hl_z ?hb_z ?h0_z ?h1_z ?hz_z) ?B_z ?F_z ?X_z (newsPull ?N_z ?U_z) ?T_z ?hk_z ?hd_z ?hu_z ?_; (case N_z => k_asm); (case U_z => (repeat (first | exact Pull.here | apply Pull.there | apply Pull.app))); (case B_z => k_asm); (case F_z => k_asm); (case X_z => k_asm); (case T_z => k_asm); (case hk_z => first | exact rfl | assumption); (case hd_z => (first | omega | (simp only [depth_caller, depth_deeper]; decide) | ((have hcL9 := cLine_is); (simp only [units_caller, units_deeper, Around.mark_units]); omega) | ((try simp only [depth_deeper, units_deeper, depth_in1, units_in1]); omega) | fail "room")); (case hu_z => (first | omega | (simp only [depth_caller, depth_deeper]; decide) | ((have hcL9 := cLine_is); (simp only [units_caller, units_deeper, Around.mark_units]); omega) | ((try simp only [depth_deeper, units_deeper, depth_in1, units_in1]); omega) | fail "room")); (case hl_z => k_mem); (case hI_z => assumption); (case hlen_z => assumption); (case hb_z => (repeat' (first | assumption | refine List.forall_mem_cons.mpr ⟨?_, ?_⟩ | refine List.forall_mem_append.mpr ⟨?_, ?_⟩ | exact List.forall_mem_nil _ | exact ne_of_abv1 (by assumption) | exact ne_of_abv2 (by assumption) (by k_mem) | exact ne_of_all (by assumption) (by k_mem) | exact ne_of_low1 (by assumption) (by k_mem) | exact ne_of_low (by assumption) (by (repeat' (first | assumption | exact List.forall_mem_nil _ | refine sub_app ?_ ?_ | refine sub_cons ?_ ?_ | k_mem | (intro _ _; k_mem))))))); (case hz_z => omega); (case h0_z => omega); (case h1_z => omega); intro _ _ _ _ _ _ P9; obtain ⟨_, _, _, en9, ab9, _, _, _, _, _⟩ := P9; subst en9; have ab9' := ab9.1; (try dsimp only))) | refine stop_of ?_)
  trivial
theorem asked1_ct {w : World} {b l : Addr} {n n' : Nat} {sp z : Int} {t : Tok} {vs : List Value} {ns : List Int} {tm : Tok} {news : Led}
    (hI : IntsAre vs ns) (hlen : ns.length ≤ 48) (hl : (l, PySem.W.listOf vs.toArray n') ∈ news) (hb : ∀ q ∈ news, q.1 ≠ b) (h0 : 0 ≤ sp) (h1 : sp ≤ 800) (hz : z = 1) :
    Ct w 137 [.ref b, .int z tm] 50 500 ((b, boxO l n sp t) :: news) (BoxPost b l n sp 4 news fun N r => ∃ a : Ask, a.dep ≤ 1 ∧ AskIs N r a) := by
  subst hz
  unfold Ct
  k_fill
  intro mean mg mb dp un gd cn cs a ccd cl outer A₀ base h₀ L m s Q E B F X N T hk hd hu hret
  refine wpAny_call ?_
  k_dflt ktr_enter
  k_steps
  all_goals (refine box_end (by assumption) (by k_asm) (by k_asm) (by (repeat (first | exact Pull.here | apply Pull.there | apply Pull.app))) (by (repeat (first | exact Spl.nil | apply Spl.cons | apply Spl.app))) (by (repeat' (first | exact Abv.nil | refine Abv.cons ?_ ?_ ?_ | (refine Abv.app (by assumption) ?_ ?_) | assumption | exact lt_of_all (by assumption) (by k_mem) | (exact all_sub (by assumption) (fun _ _ => by k_mem)) | (intro p9 hp9; k_mem)))) (by omega) (by omega) ?_)
  · refine ⟨_, ?_, .not (by k_mem) (AskIs.mono (by assumption) (by (repeat' (first | assumption | exact List.forall_mem_nil _ | refine sub_app ?_ ?_ | refine sub_cons ?_ ?_ | k_mem | (intro _ _; k_mem)))))⟩
    simp only [Ask.dep]; omega
  · rename (_ ∈ (_ : List Value)) => hv
    simp only [List.mem_cons, List.mem_nil_iff, or_false] at hv
    rcases hv with rfl | rfl
    · refine ⟨_, ?_, .and (by k_mem) (AskIs.mono (by assumption) (by (repeat' (first | assumption | exact List.forall_mem_nil _ | refine sub_app ?_ ?_ | refine sub_cons ?_ ?_ | k_mem | (intro _ _; k_mem))))) (AskIs.mono (by assumption) (by (repeat' (first | assumption | exact List.forall_mem_nil _ | refine sub_app ?_ ?_ | refine sub_cons ?_ ?_ | k_mem | (intro _ _; k_mem)))))⟩
      simp only [Ask.dep]; omega
    · refine ⟨_, ?_, .or (by k_mem) (AskIs.mono (by assumption) (by (repeat' (first | assumption | exact List.forall_mem_nil _ | refine sub_app ?_ ?_ | refine sub_cons ?_ ?_ | k_mem | (intro _ _; k_mem))))) (AskIs.mono (by assumption) (by (repeat' (first | assumption | exact List.forall_mem_nil _ | refine sub_app ?_ ?_ | refine sub_cons ?_ ?_ | k_mem | (intro _ _; k_mem)))))⟩
      simp only [Ask.dep]; omega
  · rename (_ ∈ (_ : List Value)) => hv
    rcases List.mem_append.mp hv with hv | hv
    · obtain ⟨q, hq, h⟩ := ask_rows (by assumption) hv
      exact ⟨q, by omega, h.mono (by (repeat' (first | assumption | exact List.forall_mem_nil _ | refine sub_app ?_ ?_ | refine sub_cons ?_ ?_ | k_mem | (intro _ _; k_mem))))⟩
    · simp only [List.mem_cons, List.mem_nil_iff, or_false] at hv
      rcases hv with rfl | rfl | rfl
      · exact ⟨_, by decide, .prefix (by k_mem) (by k_mem) (by decide)⟩
      · exact ⟨_, by decide, .short (by k_mem)⟩
      · exact ⟨_, by decide, .tru (by k_mem)⟩
end

inductive St where
  | acc | rej | nxt
  | med | lp | tag | nh | add1 | add2 | drop1 | drop3 | clear
  | if0 (q : Ask) (t : St)
  | if1 (q : Ask) (t e : St)
def St.ok : Nat → St → Prop
  | 0, .if0 .. => False
  | 0, .if1 .. => False
  | k + 1, .if0 q t => q.dep ≤ 1 ∧ t.ok k
  | k + 1, .if1 q t e => q.dep ≤ 1 ∧ t.ok k ∧ e.ok k
  | _, _ => True

inductive StIs (N : Led) : Value → St → Prop
  | acc {a t1} (h : (a, tupO [.str "accept" t1]) ∈ N) : StIs N (.ref a) .acc
  | rej {a t1} (h : (a, tupO [.str "reject" t1]) ∈ N) : StIs N (.ref a) .rej
  | nxt {a t1} (h : (a, tupO [.str "next" t1]) ∈ N) : StIs N (.ref a) .nxt
  | med {a t1 t2 t3} (h : (a, tupO [.str "set" t1, .str "med" t2, .int 3 t3]) ∈ N) : StIs N (.ref a) .med
  | lp {a t1 t2 t3} (h : (a, tupO [.str "set" t1, .str "local-pref" t2, .int 7 t3]) ∈ N) : StIs N (.ref a) .lp
  | tag {a t1 t2 t3} (h : (a, tupO [.str "set" t1, .str "tag" t2, .int 5 t3]) ∈ N) : StIs N (.ref a) .tag
  | nh {a t1 t2 t3} (h : (a, tupO [.str "set" t1, .str "next-hop" t2, .str "self" t3]) ∈ N) : StIs N (.ref a) .nh
  | add1 {a t1 t2} (h : (a, tupO [.str "add" t1, .int 1 t2]) ∈ N) : StIs N (.ref a) .add1
  | add2 {a t1 t2} (h : (a, tupO [.str "add" t1, .int 2 t2]) ∈ N) : StIs N (.ref a) .add2
  | drop1 {a t1 t2} (h : (a, tupO [.str "drop" t1, .int 1 t2]) ∈ N) : StIs N (.ref a) .drop1
  | drop3 {a t1 t2} (h : (a, tupO [.str "drop" t1, .int 3 t2]) ∈ N) : StIs N (.ref a) .drop3
  | clear {a t1} (h : (a, tupO [.str "clear" t1]) ∈ N) : StIs N (.ref a) .clear
  | if0 {a t1 q th el v x y} (h : (a, tupO [.str "if" t1, q, .ref th, .ref el]) ∈ N) (ht : (th, tupO [v]) ∈ N) (he : (el, tupO []) ∈ N) (hq : AskIs N q x) (k : StIs N v y) : StIs N (.ref a) (.if0 x y)
  | if1 {a t1 q th el v v' x y y'} (h : (a, tupO [.str "if" t1, q, .ref th, .ref el]) ∈ N) (ht : (th, tupO [v]) ∈ N) (he : (el, tupO [v']) ∈ N) (hq : AskIs N q x) (k : StIs N v y) (k' : StIs N v' y') : StIs N (.ref a) (.if1 x y y')
theorem kwstmt6 : True := by
  k_with_none
  k_with "m call builtin:len" => (k_here; (with_reducible show wpAny _ _ (call (Value.builtin "len") [Value.ref _]) _ _ _); k_dflt (refine' len_led ?k1_z ?k2_z ?k3_z ?k4_z ?_; (case k1_z => k_asm); (case k2_z => k_mem); (case k3_z => with_reducible assumption); (case k4_z => omega)))
  k_with "m ite" => (k_closed; with_reducible (first | refine ite_tt ?_ | refine ite_ff ?_ | refine PySem.W.ite_neg (by decide) ?_ | refine PySem.W.ite_pos (by decide) ?_))
  k_with "m subscriptTail" => (k_here; (with_reducible show wpAny _ _ (subscriptTail _ _ (Value.ref _) (Value.int _ _)) _ _ _); k_dflt (first | (refine' sub_list ?N_z ?m_z ?a_z ?b_z ?x_z ?s_z ?_; (case N_z => k_asm); (case m_z => k_mem); (case a_z => decide); (case b_z => decide); (case x_z => rfl); (case s_z => with_unfolding_all rfl)) | (refine' sub_tup ?N_z ?m_z ?a_z ?b_z ?j_z ?x_z ?s_z ?_; (case N_z => k_asm); (case m_z => k_mem); (case a_z => decide); (case b_z => decide); (case j_z => rfl); (case x_z => rfl); (case s_z => with_unfolding_all rfl))))
  k_with "m subscriptTail Name Call ref int" => (k_here; (with_reducible show wpAny _ _ (subscriptTail _ _ (Value.ref _) (Value.int _ _)) _ _ _); k_dflt (first | (refine' sub_list_any ?N_z ?m_z ?a_z ?b_z ?z_z ?s_z ?_; (case N_z => k_asm); (case m_z => k_mem); (case a_z => omega); (case b_z => first | (simp only [List.length_cons, List.length_nil]; omega) | (simp only [List.length_append, List.length_cons, List.length_nil]; omega) | (simp only [List.length_append]; omega)); (case z_z => first | exact Nat.le_of_ble_eq_true rfl | (simp only [List.length_append, List.length_cons, List.length_nil]; omega) | (simp only [List.length_append]; omega)); (case s_z => with_unfolding_all rfl)) | (refine' sub_tup_any ?N_z ?m_z ?a_z ?b_z ?z_z ?s_z ?_; (case N_z => k_asm); (case m_z => k_mem); (case a_z => omega); (case b_z => first | (simp only [List.length_cons, List.length_nil]; omega) | (simp only [List.length_append, List.length_cons, List.length_nil]; omega) | (simp only [List.length_append]; omega)); (case z_z => first | exact Nat.le_of_ble_eq_true rfl | (simp only [List.length_append, List.length_cons, List.length_nil]; omega) | (simp only [List.length_append]; omega)); (case s_z => with_unfolding_all rfl))); intro _ _)
  k_with "m subscriptTail Tuple" => (k_here; (with_reducible show wpAny _ _ (subscriptTail _ _ (Value.ref _) (Value.int _ _)) _ _ _); k_dflt (first | (refine' sub_list_any ?N_z ?m_z ?a_z ?b_z ?z_z ?s_z ?_; (case N_z => k_asm); (case m_z => k_mem); (case a_z => omega); (case b_z => first | (simp only [List.length_cons, List.length_nil]; omega) | (simp only [List.length_append, List.length_cons, List.length_nil]; omega) | (simp only [List.length_append]; omega)); (case z_z => first | exact Nat.le_of_ble_eq_true rfl | (simp only [List.length_append, List.length_cons, List.length_nil]; omega) | (simp only [List.length_append]; omega)); (case s_z => with_unfolding_all rfl)) | (refine' sub_tup_any ?N_z ?m_z ?a_z ?b_z ?z_z ?s_z ?_; (case N_z => k_asm); (case m_z => k_mem); (case a_z => omega); (case b_z => first | (simp only [List.length_cons, List.length_nil]; omega) | (simp only [List.length_append, List.length_cons, List.length_nil]; omega) | (simp only [List.length_append]; omega)); (case z_z => first | exact Nat.le_of_ble_eq_true rfl | (simp only [List.length_append, List.length_cons, List.length_nil]; omega) | (simp only [List.length_append]; omega)); (case s_z => with_unfolding_all rfl))); intro _ _)
  k_with "m subscriptTail List" => (k_here; (with_reducible show wpAny _ _ (subscriptTail _ _ (Value.ref _) (Value.int _ _)) _ _ _); k_dflt (first | (refine' sub_list_any ?N_z ?m_z ?a_z ?b_z ?z_z ?s_z ?_; (case N_z => k_asm); (case m_z => k_mem); (case a_z => omega); (case b_z => first | (simp only [List.length_cons, List.length_nil]; omega) | (simp only [List.length_append, List.length_cons, List.length_nil]; omega) | (simp only [List.length_append]; omega)); (case z_z => first | exact Nat.le_of_ble_eq_true rfl | (simp only [List.length_append, List.length_cons, List.length_nil]; omega) | (simp only [List.length_append]; omega)); (case s_z => with_unfolding_all rfl)) | (refine' sub_tup_any ?N_z ?m_z ?a_z ?b_z ?z_z ?s_z ?_; (case N_z => k_asm); (case m_z => k_mem); (case a_z => omega); (case b_z => first | (simp only [List.length_cons, List.length_nil]; omega) | (simp only [List.length_append, List.length_cons, List.length_nil]; omega) | (simp only [List.length_append]; omega)); (case z_z => first | exact Nat.le_of_ble_eq_true rfl | (simp only [List.length_append, List.length_cons, List.length_nil]; omega) | (simp only [List.length_append]; omega)); (case s_z => with_unfolding_all rfl))); intro _ _)
  k_with "m execs cons" => (k_here; (with_reducible show wpAny _ _ _ _ _ (Shared.mk _ _ _ (_ + 1) _)); refine gen_toks ?_; intro (tk : Nat))
  trivial
theorem StIs.mono {N N' : Led} {v : Value} {x : St} (h : StIs N v x) (s : ∀ p ∈ N, p ∈ N') : StIs N' v x := by
  induction h with
  | acc h => exact .acc (s _ h)
  | rej h => exact .rej (s _ h)
  | nxt h => exact .nxt (s _ h)
  | med h => exact .med (s _ h)
  | lp h => exact .lp (s _ h)
  | tag h => exact .tag (s _ h)
  | nh h => exact .nh (s _ h)
  | add1 h => exact .add1 (s _ h)
  | add2 h => exact .add2 (s _ h)
  | drop1 h => exact .drop1 (s _ h)
  | drop3 h => exact .drop3 (s _ h)
  | clear h => exact .clear (s _ h)
  | if0 h ht he hq _ k => exact .if0 (s _ h) (s _ ht) (s _ he) (hq.mono s) k
  | if1 h ht he hq _ _ k k' => exact .if1 (s _ h) (s _ ht) (s _ he) (hq.mono s) k k'

def StCt (w : World) (z : Int) (dn cu : Nat) (c B : Int) (dep : Nat) : Prop :=
  ∀ {b l : Addr} {n n' : Nat} {sp zz : Int} {t : Tok} {vs : List Value} {ns : List Int} {tm : Tok} {news : Led},
    IntsAre vs ns → ns.length ≤ 48 → (l, PySem.W.listOf vs.toArray n') ∈ news → (∀ q ∈ news, q.1 ≠ b) → 0 ≤ sp → sp ≤ B → zz = z →
    Ct w 144 [.ref b, .int zz tm] dn cu ((b, boxO l n sp t) :: news) (BoxPost b l n sp c news fun N r => ∃ x : St, x.ok dep ∧ StIs N r x)

theorem StCt.weak {w : World} {z : Int} {dn cu : Nat} {c B B' : Int} {dep : Nat} (h : StCt w z dn cu c B dep) (hB : B' ≤ B) : StCt w z dn cu c B' dep := by
  unfold StCt at h ⊢
  intro b l n n' sp zz t vs ns tm news hI hlen hl hb h0 h1 hz
  exact h hI hlen hl hb h0 (Int.le_trans h1 hB) hz
def St.plainly : St → Bool
  | .if0 .. => false
  | .if1 .. => false
  | _ => true
theorem okd (x : St) (h : x.plainly = true) : ∀ n, x.ok n := fun n => by cases x <;> first | (cases n <;> trivial) | cases h
def deedRows1 : List (List Atom) := [[.s "set", .s "med", .i 3], [.s "set", .s "local-pref", .i 7], [.s "set", .s "tag", .i 5], [.s "set", .s "next-hop", .s "self"], [.s "add", .i 1]]
def deedRows2 : List (List Atom) := [[.s "add", .i 2], [.s "drop", .i 1], [.s "drop", .i 3], [.s "clear"]]
theorem deed_rows1 {tl : Led} {vs : List Value} {v : Value} (h : RowsAre tl vs deedRows1) (hv : v ∈ vs) : ∃ x : St, (∀ n, x.ok n) ∧ StIs tl v x := by
  obtain ⟨a, us, as, rfl, hm, ha, hr⟩ := h.get hv
  simp only [deedRows1, List.mem_cons, List.mem_nil_iff, or_false] at hr
  rcases hr with rfl | rfl | rfl | rfl | rfl
  · obtain ⟨_, _, _, rfl⟩ := at_ssi ha; exact ⟨.med, okd _ rfl, .med hm⟩
  · obtain ⟨_, _, _, rfl⟩ := at_ssi ha; exact ⟨.lp, okd _ rfl, .lp hm⟩
  · obtain ⟨_, _, _, rfl⟩ := at_ssi ha; exact ⟨.tag, okd _ rfl, .tag hm⟩
  · obtain ⟨_, _, _, rfl⟩ := at_sss ha; exact ⟨.nh, okd _ rfl, .nh hm⟩
  · obtain ⟨_, _, rfl⟩ := at_si ha; exact ⟨.add1, okd _ rfl, .add1 hm⟩
theorem deed_rows2 {tl : Led} {vs : List Value} {v : Value} (h : RowsAre tl vs deedRows2) (hv : v ∈ vs) : ∃ x : St, (∀ n, x.ok n) ∧ StIs tl v x := by
  obtain ⟨a, us, as, rfl, hm, ha, hr⟩ := h.get hv
  simp only [deedRows2, List.mem_cons, List.mem_nil_iff, or_false] at hr
  rcases hr with rfl | rfl | rfl | rfl
  · obtain ⟨_, _, rfl⟩ := at_si ha; exact ⟨.add2, okd _ rfl, .add2 hm⟩
  · obtain ⟨_, _, rfl⟩ := at_si ha; exact ⟨.drop1, okd _ rfl, .drop1 hm⟩
  · obtain ⟨_, _, rfl⟩ := at_si ha; exact ⟨.drop3, okd _ rfl, .drop3 hm⟩
  · obtain ⟨_, rfl⟩ := at_s ha; exact ⟨.clear, okd _ rfl, .clear hm⟩
section

theorem kwstmt7 : True := by
  k_with_none
  k_with "m call builtin:len" => (k_here; (with_reducible show wpAny _ _ (call (Value.builtin "len") [Value.ref _]) _ _ _); k_dflt (refine' len_led ?k1_z ?k2_z ?k3_z ?k4_z ?_; (case k1_z => k_asm); (case k2_z => k_mem); (case k3_z => with_reducible assumption); (case k4_z => omega)))
  k_with "m ite" => (k_closed; with_reducible (first | refine ite_tt ?_ | refine ite_ff ?_ | refine PySem.W.ite_neg (by decide) ?_ | refine PySem.W.ite_pos (by decide) ?_))
  k_with "m subscriptTail" => (k_here; (with_reducible show wpAny _ _ (subscriptTail _ _ (Value.ref _) (Value.int _ _)) _ _ _); k_dflt (first | (refine' sub_list ?N_z ?m_z ?a_z ?b_z ?x_z ?s_z ?_; (case N_z => k_asm); (case m_z => k_mem); (case a_z => decide); (case b_z => decide); (case x_z => rfl); (case s_z => with_unfolding_all rfl)) | (refine' sub_tup ?N_z ?m_z ?a_z ?b_z ?j_z ?x_z ?s_z ?_; (case N_z => k_asm); (case m_z => k_mem); (case a_z => decide); (case b_z => decide); (case j_z => rfl); (case x_z => rfl); (case s_z => with_unfolding_all rfl))))
  k_with "m subscriptTail Name Call ref int" => (k_here; (with_reducible show wpAny _ _ (subscriptTail _ _ (Value.ref _) (Value.int _ _)) _ _ _); k_dflt (first | (refine' sub_list_any ?N_z ?m_z ?a_z ?b_z ?z_z ?s_z ?_; (case N_z => k_asm); (case m_z => k_mem); (case a_z => omega); (case b_z => first | (simp only [List.length_cons, List.length_nil]; omega) | (simp only [List.length_append, List.length_cons, List.length_nil]; omega) | (simp only [List.length_append]; omega)); (case z_z => first | exact Nat.le_of_ble_eq_true rfl | (simp only [List.length_append, List.length_cons, List.length_nil]; omega) | (simp only [List.length_append]; omega)); (case s_z => with_unfolding_all rfl)) | (refine' sub_tup_any ?N_z ?m_z ?a_z ?b_z ?z_z ?s_z ?_; (case N_z => k_asm); (case m_z => k_mem); (case a_z => omega); (case b_z => first | (simp only [List.length_cons, List.length_nil]; omega) | (simp only [List.length_append, List.length_cons, List.length_nil]; omega) | (simp only [List.length_append]; omega)); (case z_z => first | exact Nat.le_of_ble_eq_true rfl | (simp only [List.length_append, List.length_cons, List.length_nil]; omega) | (simp only [List.length_append]; omega)); (case s_z => with_unfolding_all rfl))); intro _ _)
  k_with "m subscriptTail Tuple" => (k_here; (with_reducible show wpAny _ _ (subscriptTail _ _ (Value.ref _) (Value.int _ _)) _ _ _); k_dflt (first | (refine' sub_list_any ?N_z ?m_z ?a_z ?b_z ?z_z ?s_z ?_; (case N_z => k_asm); (case m_z => k_mem); (case a_z => omega); (case b_z => first | (simp only [List.length_cons, List.length_nil]; omega) | (simp only [List.length_append, List.length_cons, List.length_nil]; omega) | (simp only [List.length_append]; omega)); (case z_z => first | exact Nat.le_of_ble_eq_true rfl | (simp only [List.length_append, List.length_cons, List.length_nil]; omega) | (simp only [List.length_append]; omega)); (case s_z => with_unfolding_all rfl)) | (refine' sub_tup_any ?N_z ?m_z ?a_z ?b_z ?z_z ?s_z ?_; (case N_z => k_asm); (case m_z => k_mem); (case a_z => omega); (case b_z => first | (simp only [List.length_cons, List.length_nil]; omega) | (simp only [List.length_append, List.length_cons, List.length_nil]; omega) | (simp only [List.length_append]; omega)); (case z_z => first | exact Nat.le_of_ble_eq_true rfl | (simp only [List.length_append, List.length_cons, List.length_nil]; omega) | (simp only [List.length_append]; omega)); (case s_z => with_unfolding_all rfl))); intro _ _)
  k_with "m subscriptTail List" => (k_here; (with_reducible show wpAny _ _ (subscriptTail _ _ (Value.ref _) (Value.int _ _)) _ _ _); k_dflt (first | (refine' sub_list_any ?N_z ?m_z ?a_z ?b_z ?z_z ?s_z ?_; (case N_z => k_asm); (case m_z => k_mem); (case a_z => omega); (case b_z => first | (simp only [List.length_cons, List.length_nil]; omega) | (simp only [List.length_append, List.length_cons, List.length_nil]; omega) | (simp only [List.length_append]; omega)); (case z_z => first | exact Nat.le_of_ble_eq_true rfl | (simp only [List.length_append, List.length_cons, List.length_nil]; omega) | (simp only [List.length_append]; omega)); (case s_z => with_unfolding_all rfl)) | (refine' sub_tup_any ?N_z ?m_z ?a_z ?b_z ?z_z ?s_z ?_; (case N_z => k_asm); (case m_z => k_mem); (case a_z => omega); (case b_z => first | (simp only [List.length_cons, List.length_nil]; omega) | (simp only [List.length_append, List.length_cons, List.length_nil]; omega) | (simp only [List.length_append]; omega)); (case z_z => first | exact Nat.le_of_ble_eq_true rfl | (simp only [List.length_append, List.length_cons, List.length_nil]; omega) | (simp only [List.length_append]; omega)); (case s_z => with_unfolding_all rfl))); intro _ _)
  k_with "m execs cons" => (k_here; (with_reducible show wpAny _ _ _ _ _ (Shared.mk _ _ _ (_ + 1) _)); refine gen_toks ?_; intro (tk : Nat))
  k_with "m call ref" => ((k_here; (with_reducible show wpAny _ _ (call (Value.ref 130) _) _ _ _); first | (k_dflt (refine' ct_use (draw_ct ?hI_z ?hlen_z ?hl_z ?hb_z ?hm_z ?hm2_z ?h0_z ?h1_z) ?B_z ?F_z ?X_z (newsPull ?N_z ?U_z) ?T_z ?hk_z ?hd_z ?hu_z ?_; (case N_z => k_asm); (case U_z => (repeat (first | exact Pull.here | apply Pull.there | apply Pull.app))); (case B_z => k_asm); (case F_z => k_asm); (case X_z => k_asm); (case T_z => k_asm); (case hk_z => first | exact rfl | assumption); (case hd_z => (first | omega | (simp only [depth_caller, depth_deeper]; decide) | ((have hcL9 := cLine_is); (simp only [units_caller, units_deeper, Around.mark_units]); omega) | ((try simp only [depth_deeper, units_deeper, depth_in1, units_in1]); omega) | fail "room")); (case hu_z => (first | omega | (simp only [depth_caller, depth_deeper]; decide) | ((have hcL9 := cLine_is); (simp only [units_caller, units_deeper, Around.mark_units]); omega) | ((try simp only [depth_deeper, units_deeper, depth_in1, units_in1]); omega) | fail "room")); (case hl_z => k_mem); (case hI_z => assumption); (case hlen_z => assumption); (case hb_z => (repeat' (first | assumption | refine List.forall_mem_cons.mpr ⟨?_, ?_⟩ | refine List.forall_mem_append.mpr ⟨?_, ?_⟩ | exact List.forall_mem_nil _ | exact ne_of_abv1 (by assumption) | exact ne_of_abv2 (by assumption) (by k_mem) | exact ne_of_all (by assumption) (by k_mem) | exact ne_of_low1 (by assumption) (by k_mem) | exact ne_of_low (by assumption) (by (repeat' (first | assumption | exact List.forall_mem_nil _ | refine sub_app ?_ ?_ | refine sub_cons ?_ ?_ | k_mem | (intro _ _; k_mem))))))); (case hm_z => decide); (case hm2_z => decide); (case h0_z => omega); (case h1_z => omega)); intro _ _ _ _ _ _ P9; obtain ⟨_, _, _, e9, _, _, en9⟩ := P9; subst e9; subst en9; (try dsimp only)) | refine stop_of ?_))
  k_with "m eval List" => (k_here; (with_reducible show wpAny _ _ (eval (PySem.Expr.List _ _) _) _ _ _); k_dflt (refine' eval_list ?r_z ?z_z ?F_z ?N_z ?_; (case r_z => (repeat' (first | exact RowE.nil | exact AtomE.nil | refine' RowE.cons ?_ ?_ ?_ | refine' AtomE.s ?_ | refine' AtomE.i ?_ | exact rfl))); (case z_z => exact rfl); (case F_z => k_asm); (case N_z => k_asm); intro _ _ _ _ _ _ _ _ lt9 _ hn9; simp only [List.length_cons, List.length_nil] at hn9; have ab9 := Abv.of (b := b) lt9 (by k_mem); have ab9' := ab9.1); (try k_sweep))
  k_with "m binaryOp Add ref ref" => (k_here; (with_reducible show wpAny _ _ (binaryOp _ (Value.ref _) (Value.ref _)) _ _ _); k_dflt (refine' add_led ?F_z ?N_z ?a_z ?b_z ?z_z ?_; (case F_z => k_asm); (case N_z => k_asm); (case a_z => k_mem); (case b_z => k_mem); (case z_z => first | omega | (simp only [List.length_cons, List.length_nil]; omega))); intro _ _ _ _ _; (try k_sweep))
  trivial
theorem st0_ct {w : World} : StCt w 0 60 600 2 900 0 := by
  unfold StCt
  intro b l n n' sp zz t vs ns tm news hI hlen hl hb h0 h1 hz
  subst hz
  unfold Ct
  k_fill
  intro mean mg mb dp un gd cn cs a ccd cl outer A₀ base h₀ L m s Q E B F X N T hk hd hu hret
  refine wpAny_call ?_
  k_dflt ktr_enter
  k_steps
  all_goals (refine box_end (by assumption) (by k_asm) (by k_asm) (by (repeat (first | exact Pull.here | apply Pull.there | apply Pull.app))) (by (repeat (first | exact Spl.nil | apply Spl.cons | apply Spl.app))) (by (repeat' (first | exact Abv.nil | refine Abv.cons ?_ ?_ ?_ | (refine Abv.app (by assumption) ?_ ?_) | assumption | exact lt_of_all (by assumption) (by k_mem) | (exact all_sub (by assumption) (fun _ _ => by k_mem)) | (intro p9 hp9; k_mem)))) (by omega) (by omega) ?_)
  · rename (_ ∈ (_ : List Value)) => hv
    simp only [List.mem_cons, List.mem_nil_iff, or_false] at hv
    rcases hv with rfl | rfl | rfl
    · exact ⟨.acc, trivial, .acc (by k_mem)⟩
    · exact ⟨.rej, trivial, .rej (by k_mem)⟩
    · exact ⟨.nxt, trivial, .nxt (by k_mem)⟩
  · rename (_ ∈ (_ : List Value)) => hv
    rcases List.mem_append.mp hv with hv | hv
    · obtain ⟨x, hx, h⟩ := deed_rows1 (by assumption) hv
      exact ⟨x, hx _, h.mono (by (repeat' (first | assumption | exact List.forall_mem_nil _ | refine sub_app ?_ ?_ | refine sub_cons ?_ ?_ | k_mem | (intro _ _; k_mem))))⟩
    · obtain ⟨x, hx, h⟩ := deed_rows2 (by assumption) hv
      exact ⟨x, hx _, h.mono (by (repeat' (first | assumption | exact List.forall_mem_nil _ | refine sub_app ?_ ?_ | refine sub_cons ?_ ?_ | k_mem | (intro _ _; k_mem))))⟩
  · rename (_ ∈ (_ : List Value)) => hv
    simp only [List.mem_cons, List.mem_nil_iff, or_false] at hv
    rcases hv with rfl | rfl | rfl
    · exact ⟨.acc, trivial, .acc (by k_mem)⟩
    · exact ⟨.rej, trivial, .rej (by k_mem)⟩
    · exact ⟨.nxt, trivial, .nxt (by k_mem)⟩
  · rename (_ ∈ (_ : List Value)) => hv
    rcases List.mem_append.mp hv with hv | hv
    · obtain ⟨x, hx, h⟩ := deed_rows1 (by assumption) hv
      exact ⟨x, hx _, h.mono (by (repeat' (first | assumption | exact List.forall_mem_nil _ | refine sub_app ?_ ?_ | refine sub_cons ?_ ?_ | k_mem | (intro _ _; k_mem))))⟩
    · obtain ⟨x, hx, h⟩ := deed_rows2 (by assumption) hv
      exact ⟨x, hx _, h.mono (by (repeat' (first | assumption | exact List.forall_mem_nil _ | refine sub_app ?_ ?_ | refine sub_cons ?_ ?_ | k_mem | (intro _ _; k_mem))))⟩
end
section

theorem kwstmt8 : True := by
  k_with_none
  k_with "m call builtin:len" => (k_here; (with_reducible show wpAny _ _ (call (Value.builtin "len") [Value.ref _]) _ _ _); k_dflt (refine' len_led ?k1_z ?k2_z ?k3_z ?k4_z ?_; (case k1_z => k_asm); (case k2_z => k_mem); (case k3_z => with_reducible assumption); (case k4_z => omega)))
  k_with "m ite" => (k_closed; with_reducible (first | refine ite_tt ?_ | refine ite_ff ?_ | refine PySem.W.ite_neg (by decide) ?_ | refine PySem.W.ite_pos (by decide) ?_))
  k_with "m subscriptTail" => (k_here; (with_reducible show wpAny _ _ (subscriptTail _ _ (Value.ref _) (Value.int _ _)) _ _ _); k_dflt (first | (refine' sub_list ?N_z ?m_z ?a_z ?b_z ?x_z ?s_z ?_; (case N_z => k_asm); (case m_z => k_mem); (case a_z => decide); (case b_z => decide); (case x_z => rfl); (case s_z => with_unfolding_all rfl)) | (refine' sub_tup ?N_z ?m_z ?a_z ?b_z ?j_z ?x_z ?s_z ?_; (case N_z => k_asm); (case m_z => k_mem); (case a_z => decide); (case b_z => decide); (case j_z => rfl); (case x_z => rfl); (case s_z => with_unfolding_all rfl))))
  k_with "m subscriptTail Name Call ref int" => (k_here; (with_reducible show wpAny _ _ (subscriptTail _ _ (Value.ref _) (Value.int _ _)) _ _ _); k_dflt (first | (refine' sub_list_any ?N_z ?m_z ?a_z ?b_z ?z_z ?s_z ?_; (case N_z => k_asm); (case m_z => k_mem); (case a_z => omega); (case b_z => first | (simp only [List.length_cons, List.length_nil]; omega) | (simp only [List.length_append, List.length_cons, List.length_nil]; omega) | (simp only [List.length_append]; omega)); (case z_z => first | exact Nat.le_of_ble_eq_true rfl | (simp only [List.length_append, List.length_cons, List.length_nil]; omega) | (simp only [List.length_append]; omega)); (case s_z => with_unfolding_all rfl)) | (refine' sub_tup_any ?N_z ?m_z ?a_z ?b_z ?z_z ?s_z ?_; (case N_z => k_asm); (case m_z => k_mem); (case a_z => omega); (case b_z => first | (simp only [List.length_cons, List.length_nil]; omega) | (simp only [List.length_append, List.length_cons, List.length_nil]; omega) | (simp only [List.length_append]; omega)); (case z_z => first | exact Nat.le_of_ble_eq_true rfl | (simp only [List.length_append, List.length_cons, List.length_nil]; omega) | (simp only [List.length_append]; omega)); (case s_z => with_unfolding_all rfl))); intro _ _)
  k_with "m subscriptTail Tuple" => (k_here; (with_reducible show wpAny _ _ (subscriptTail _ _ (Value.ref _) (Value.int _ _)) _ _ _); k_dflt (first | (refine' sub_list_any ?N_z ?m_z ?a_z ?b_z ?z_z ?s_z ?_; (case N_z => k_asm); (case m_z => k_mem); (case a_z => omega); (case b_z => first | (simp only [List.length_cons, List.length_nil]; omega) | (simp only [List.length_append, List.length_cons, List.length_nil]; omega) | (simp only [List.length_append]; omega)); (case z_z => first | exact Nat.le_of_ble_eq_true rfl | (simp only [List.length_append, List.length_cons, List.length_nil]; omega) | (simp only [List.length_append]; omega)); (case s_z => with_unfolding_all rfl)) | (refine' sub_tup_any ?N_z ?m_z ?a_z ?b_z ?z_z ?s_z ?_; (case N_z => k_asm); (case m_z => k_mem); (case a_z => omega); (case b_z => first | (simp only [List.length_cons, List.length_nil]; omega) | (simp only [List.length_append, List.length_cons, List.length_nil]; omega) | (simp only [List.length_append]; omega)); (case z_z => first | exact Nat.le_of_ble_eq_true rfl | (simp only [List.length_append, List.length_cons, List.length_nil]; omega) | (simp only [List.length_append]; omega)); (case s_z => with_unfolding_all rfl))); intro _ _)
  k_with "m subscriptTail List" => (k_here; (with_reducible show wpAny _ _ (subscriptTail _ _ (Value.ref _) (Value.int _ _)) _ _ _); k_dflt (first | (refine' sub_list_any ?N_z ?m_z ?a_z ?b_z ?z_z ?s_z ?_; (case N_z => k_asm); (case m_z => k_mem); (case a_z => omega); (case b_z => first | (simp only [List.length_cons, List.length_nil]; omega) | (simp only [List.length_append, List.length_cons, List.length_nil]; omega) | (simp only [List.length_append]; omega)); (case z_z => first | exact Nat.le_of_ble_eq_true rfl | (simp only [List.length_append, List.length_cons, List.length_nil]; omega) | (simp only [List.length_append]; omega)); (case s_z => with_unfolding_all rfl)) | (refine' sub_tup_any ?N_z ?m_z ?a_z ?b_z ?z_z ?s_z ?_; (case N_z => k_asm); (case m_z => k_mem); (case a_z => omega); (case b_z => first | (simp only [List.length_cons, List.length_nil]; omega) | (simp only [List.length_append, List.length_cons, List.length_nil]; omega) | (simp only [List.length_append]; omega)); (case z_z => first | exact Nat.le_of_ble_eq_true rfl | (simp only [List.length_append, List.length_cons, List.length_nil]; omega) | (simp only [List.length_append]; omega)); (case s_z => with_unfolding_all rfl))); intro _ _)
  k_with "m execs cons" => (k_here; (with_reducible show wpAny _ _ _ _ _ (Shared.mk _ _ _ (_ + 1) _)); refine gen_toks ?_; intro (tk : Nat))
  k_with "m call ref" => ((k_here; (with_reducible show wpAny _ _ (call (Value.ref 130) _) _ _ _); first | (k_dflt (refine' ct_use (draw_ct ?hI_z ?hlen_z ?hl_z ?hb_z ?hm_z ?hm2_z ?h0_z ?h1_z) ?B_z ?F_z ?X_z (newsPull ?N_z ?U_z) ?T_z ?hk_z ?hd_z ?hu_z ?_; (case N_z => k_asm); (case U_z => (repeat (first | exact Pull.here | apply Pull.there | apply Pull.app))); (case B_z => k_asm); (case F_z => k_asm); (case X_z => k_asm); (case T_z => k_asm); (case hk_z => first | exact rfl | assumption); (case hd_z => (first | omega | (simp only [depth_caller, depth_deeper]; decide) | ((have hcL9 := cLine_is); (simp only [units_caller, units_deeper, Around.mark_units]); omega) | ((try simp only [depth_deeper, units_deeper, depth_in1, units_in1]); omega) | fail "room")); (case hu_z => (first | omega | (simp only [depth_caller, depth_deeper]; decide) | ((have hcL9 := cLine_is); (simp only [units_caller, units_deeper, Around.mark_units]); omega) | ((try simp only [depth_deeper, units_deeper, depth_in1, units_in1]); omega) | fail "room")); (case hl_z => k_mem); (case hI_z => assumption); (case hlen_z => assumption); (case hb_z => (repeat' (first | assumption | refine List.forall_mem_cons.mpr ⟨?_, ?_⟩ | refine List.forall_mem_append.mpr ⟨?_, ?_⟩ | exact List.forall_mem_nil _ | exact ne_of_abv1 (by assumption) | exact ne_of_abv2 (by assumption) (by k_mem) | exact ne_of_all (by assumption) (by k_mem) | exact ne_of_low1 (by assumption) (by k_mem) | exact ne_of_low (by assumption) (by (repeat' (first | assumption | exact List.forall_mem_nil _ | refine sub_app ?_ ?_ | refine sub_cons ?_ ?_ | k_mem | (intro _ _; k_mem))))))); (case hm_z => decide); (case hm2_z => decide); (case h0_z => omega); (case h1_z => omega)); intro _ _ _ _ _ _ P9; obtain ⟨_, _, _, e9, _, _, en9⟩ := P9; subst e9; subst en9; (try dsimp only)) | refine stop_of ?_))
  k_with "m eval List" => (k_here; (with_reducible show wpAny _ _ (eval (PySem.Expr.List _ _) _) _ _ _); k_dflt (refine' eval_list ?r_z ?z_z ?F_z ?N_z ?_; (case r_z => (repeat' (first | exact RowE.nil | exact AtomE.nil | refine' RowE.cons ?_ ?_ ?_ | refine' AtomE.s ?_ | refine' AtomE.i ?_ | exact rfl))); (case z_z => exact rfl); (case F_z => k_asm); (case N_z => k_asm); intro _ _ _ _ _ _ _ _ lt9 _ hn9; simp only [List.length_cons, List.length_nil] at hn9; have ab9 := Abv.of (b := b) lt9 (by k_mem); have ab9' := ab9.1); (try k_sweep))
  k_with "m binaryOp Add ref ref" => (k_here; (with_reducible show wpAny _ _ (binaryOp _ (Value.ref _) (Value.ref _)) _ _ _); k_dflt (refine' add_led ?F_z ?N_z ?a_z ?b_z ?z_z ?_; (case F_z => k_asm); (case N_z => k_asm); (case a_z => k_mem); (case b_z => k_mem); (case z_z => first | omega | (simp only [List.length_cons, List.length_nil]; omega))); intro _ _ _ _ _; (try k_sweep))
  k_with "m call ref" => (k_here; (with_reducible show wpAny _ _ (call (Value.ref 137) _) _ _ _); first | (k_dflt (refine' ct_use (asked1_ct ?hI_z ?hlen_z ?hl_z ?hb_z ?h0_z ?h1_z ?hz_z) ?B_z ?F_z ?X_z (newsPull ?N_z ?U_z) ?T_z ?hk_z ?hd_z ?hu_z ?_; (case N_z => k_asm); (case U_z => (repeat (first | exact Pull.here | apply Pull.there | apply Pull.app))); (case B_z => k_asm); (case F_z => k_asm); (case X_z => k_asm); (case T_z => k_asm); (case hk_z => first | exact rfl | assumption); (case hd_z => (first | omega | (simp only [depth_caller, depth_deeper]; decide) | ((have hcL9 := cLine_is); (simp only [units_caller, units_deeper, Around.mark_units]); omega) | ((try simp only [depth_deeper, units_deeper, depth_in1, units_in1]); omega) | fail "room")); (case hu_z => (first | omega | (simp only [depth_caller, depth_deeper]; decide) | ((have hcL9 := cLine_is); (simp only [units_caller, units_deeper, Around.mark_units]); omega) | ((try simp only [depth_deeper, units_deeper, depth_in1, units_in1]); omega) | fail "room")); (case hl_z => k_mem); (case hI_z => assumption); (case hlen_z => assumption); (case hb_z => (repeat' (first | assumption | refine List.forall_mem_cons.mpr ⟨?_, ?_⟩ | refine List.forall_mem_append.mpr ⟨?_, ?_⟩ | exact List.forall_mem_nil _ | exact ne_of_abv1 (by assumption) | exact ne_of_abv2 (by assumption) (by k_mem) | exact ne_of_all (by assumption) (by k_mem) | exact ne_of_low1 (by assumption) (by k_mem) | exact ne_of_low (by assumption) (by (repeat' (first | assumption | exact List.forall_mem_nil _ | refine sub_app ?_ ?_ | refine sub_cons ?_ ?_ | k_mem | (intro _ _; k_mem))))))); (case hz_z => omega); (case h0_z => omega); (case h1_z => omega); intro _ _ _ _ _ _ P9; obtain ⟨_, _, _, en9, ab9, _, _, _, _, _⟩ := P9; subst en9; have ab9' := ab9.1; (try dsimp only))) | refine stop_of ?_)
  k_with "m call ref" => (k_here; (with_reducible show wpAny _ _ (call (Value.ref 144) _) _ _ _); first | (k_dflt (refine' ct_use ((by assumption : StCt _ _ _ _ _ _ _) ?hI_z ?hlen_z ?hl_z ?hb_z ?h0_z ?h1_z ?hz_z) ?B_z ?F_z ?X_z (newsPull ?N_z ?U_z) ?T_z ?hk_z ?hd_z ?hu_z ?_; (case N_z => k_asm); (case U_z => (repeat (first | exact Pull.here | apply Pull.there | apply Pull.app))); (case B_z => k_asm); (case F_z => k_asm); (case X_z => k_asm); (case T_z => k_asm); (case hk_z => first | exact rfl | assumption); (case hd_z => (first | omega | (simp only [depth_caller, depth_deeper]; decide) | ((have hcL9 := cLine_is); (simp only [units_caller, units_deeper, Around.mark_units]); omega) | ((try simp only [depth_deeper, units_deeper, depth_in1, units_in1]); omega) | fail "room")); (case hu_z => (first | omega | (simp only [depth_caller, depth_deeper]; decide) | ((have hcL9 := cLine_is); (simp only [units_caller, units_deeper, Around.mark_units]); omega) | ((try simp only [depth_deeper, units_deeper, depth_in1, units_in1]); omega) | fail "room")); (case hl_z => k_mem); (case hI_z => assumption); (case hlen_z => assumption); (case hb_z => (repeat' (first | assumption | refine List.forall_mem_cons.mpr ⟨?_, ?_⟩ | refine List.forall_mem_append.mpr ⟨?_, ?_⟩ | exact List.forall_mem_nil _ | exact ne_of_abv1 (by assumption) | exact ne_of_abv2 (by assumption) (by k_mem) | exact ne_of_all (by assumption) (by k_mem) | exact ne_of_low1 (by assumption) (by k_mem) | exact ne_of_low (by assumption) (by (repeat' (first | assumption | exact List.forall_mem_nil _ | refine sub_app ?_ ?_ | refine sub_cons ?_ ?_ | k_mem | (intro _ _; k_mem))))))); (case hz_z => omega); (case h0_z => omega); (case h1_z => omega); intro _ _ _ _ _ _ P9; obtain ⟨_, _, _, en9, ab9, _, _, _, _, _⟩ := P9; subst en9; have ab9' := ab9.1; (try dsimp only))) | refine stop_of ?_)
  trivial
theorem stS_ct {w : World} {z : Int} {dn cu : Nat} {c B : Int} {dep : Nat} (hz0 : 0 ≤ z) (hdn : 60 ≤ dn) (hcu : 600 ≤ cu) (hc : 0 ≤ c) (hB : B ≤ 790) (ih : StCt w z dn cu c B dep) : StCt w (z + 1) (dn + 20) (cu + 100) (5 + 2 * c) (B - (5 + c)) (dep + 1) := by
  unfold StCt
  intro b l n n' sp zz t vs ns tm news hI hlen hl hb h0 h1 hz
  subst hz
  unfold Ct
  k_fill
  intro mean mg mb dp un gd cn cs a ccd cl outer A₀ base h₀ L m s Q E B F X N T hk hd hu hret
  refine wpAny_call ?_
  k_dflt ktr_enter
  k_steps
  all_goals (refine box_end (by assumption) (by k_asm) (by k_asm) (by (repeat (first | exact Pull.here | apply Pull.there | apply Pull.app))) (by (repeat (first | exact Spl.nil | apply Spl.cons | apply Spl.app))) (by (repeat' (first | exact Abv.nil | refine Abv.cons ?_ ?_ ?_ | (refine Abv.app (by assumption) ?_ ?_) | assumption | exact lt_of_all (by assumption) (by k_mem) | (exact all_sub (by assumption) (fun _ _ => by k_mem)) | (intro p9 hp9; k_mem)))) (by omega) (by omega) ?_)
  · refine ⟨_, ?_, .if1 (by k_mem) (by k_mem) (by k_mem) (AskIs.mono (by assumption) (by (repeat' (first | assumption | exact List.forall_mem_nil _ | refine sub_app ?_ ?_ | refine sub_cons ?_ ?_ | k_mem | (intro _ _; k_mem))))) (StIs.mono (by assumption) (by (repeat' (first | assumption | exact List.forall_mem_nil _ | refine sub_app ?_ ?_ | refine sub_cons ?_ ?_ | k_mem | (intro _ _; k_mem))))) (StIs.mono (by assumption) (by (repeat' (first | assumption | exact List.forall_mem_nil _ | refine sub_app ?_ ?_ | refine sub_cons ?_ ?_ | k_mem | (intro _ _; k_mem)))))⟩
    simp only [St.ok]; exact ⟨by assumption, by assumption, by assumption⟩
  · refine ⟨_, ?_, .if0 (by k_mem) (by k_mem) (by k_mem) (AskIs.mono (by assumption) (by (repeat' (first | assumption | exact List.forall_mem_nil _ | refine sub_app ?_ ?_ | refine sub_cons ?_ ?_ | k_mem | (intro _ _; k_mem))))) (StIs.mono (by assumption) (by (repeat' (first | assumption | exact List.forall_mem_nil _ | refine sub_app ?_ ?_ | refine sub_cons ?_ ?_ | k_mem | (intro _ _; k_mem)))))⟩
    simp only [St.ok]; exact ⟨by assumption, by assumption⟩
  · rename (_ ∈ (_ : List Value)) => hv
    simp only [List.mem_cons, List.mem_nil_iff, or_false] at hv
    rcases hv with rfl | rfl | rfl
    · exact ⟨.acc, trivial, .acc (by k_mem)⟩
    · exact ⟨.rej, trivial, .rej (by k_mem)⟩
    · exact ⟨.nxt, trivial, .nxt (by k_mem)⟩
  · rename (_ ∈ (_ : List Value)) => hv
    rcases List.mem_append.mp hv with hv | hv
    · obtain ⟨x, hx, h⟩ := deed_rows1 (by assumption) hv
      exact ⟨x, hx _, h.mono (by (repeat' (first | assumption | exact List.forall_mem_nil _ | refine sub_app ?_ ?_ | refine sub_cons ?_ ?_ | k_mem | (intro _ _; k_mem))))⟩
    · obtain ⟨x, hx, h⟩ := deed_rows2 (by assumption) hv
      exact ⟨x, hx _, h.mono (by (repeat' (first | assumption | exact List.forall_mem_nil _ | refine sub_app ?_ ?_ | refine sub_cons ?_ ?_ | k_mem | (intro _ _; k_mem))))⟩
end
theorem kwstmt9 : True := by
  k_with_none
  k_with "m call builtin:len" => (k_here; (with_reducible show wpAny _ _ (call (Value.builtin "len") [Value.ref _]) _ _ _); k_dflt (refine' len_led ?k1_z ?k2_z ?k3_z ?k4_z ?_; (case k1_z => k_asm); (case k2_z => k_mem); (case k3_z => with_reducible assumption); (case k4_z => omega)))
  k_with "m ite" => (k_closed; with_reducible (first | refine ite_tt ?_ | refine ite_ff ?_ | refine PySem.W.ite_neg (by decide) ?_ | refine PySem.W.ite_pos (by decide) ?_))
  k_with "m subscriptTail" => (k_here; (with_reducible show wpAny _ _ (subscriptTail _ _ (Value.ref _) (Value.int _ _)) _ _ _); k_dflt (first | (refine' sub_list ?N_z ?m_z ?a_z ?b_z ?x_z ?s_z ?_; (case N_z => k_asm); (case m_z => k_mem); (case a_z => decide); (case b_z => decide); (case x_z => rfl); (case s_z => with_unfolding_all rfl)) | (refine' sub_tup ?N_z ?m_z ?a_z ?b_z ?j_z ?x_z ?s_z ?_; (case N_z => k_asm); (case m_z => k_mem); (case a_z => decide); (case b_z => decide); (case j_z => rfl); (case x_z => rfl); (case s_z => with_unfolding_all rfl))))
  k_with "m subscriptTail Name Call ref int" => (k_here; (with_reducible show wpAny _ _ (subscriptTail _ _ (Value.ref _) (Value.int _ _)) _ _ _); k_dflt (first | (refine' sub_list_any ?N_z ?m_z ?a_z ?b_z ?z_z ?s_z ?_; (case N_z => k_asm); (case m_z => k_mem); (case a_z => omega); (case b_z => first | (simp only [List.length_cons, List.length_nil]; omega) | (simp only [List.length_append, List.length_cons, List.length_nil]; omega) | (simp only [List.length_append]; omega)); (case z_z => first | exact Nat.le_of_ble_eq_true rfl | (simp only [List.length_append, List.length_cons, List.length_nil]; omega) | (simp only [List.length_append]; omega)); (case s_z => with_unfolding_all rfl)) | (refine' sub_tup_any ?N_z ?m_z ?a_z ?b_z ?z_z ?s_z ?_; (case N_z => k_asm); (case m_z => k_mem); (case a_z => omega); (case b_z => first | (simp only [List.length_cons, List.length_nil]; omega) | (simp only [List.length_append, List.length_cons, List.length_nil]; omega) | (simp only [List.length_append]; omega)); (case z_z => first | exact Nat.le_of_ble_eq_true rfl | (simp only [List.length_append, List.length_cons, List.length_nil]; omega) | (simp only [List.length_append]; omega)); (case s_z => with_unfolding_all rfl))); intro _ _)
  k_with "m subscriptTail Tuple" => (k_here; (with_reducible show wpAny _ _ (subscriptTail _ _ (Value.ref _) (Value.int _ _)) _ _ _); k_dflt (first | (refine' sub_list_any ?N_z ?m_z ?a_z ?b_z ?z_z ?s_z ?_; (case N_z => k_asm); (case m_z => k_mem); (case a_z => omega); (case b_z => first | (simp only [List.length_cons, List.length_nil]; omega) | (simp only [List.length_append, List.length_cons, List.length_nil]; omega) | (simp only [List.length_append]; omega)); (case z_z => first | exact Nat.le_of_ble_eq_true rfl | (simp only [List.length_append, List.length_cons, List.length_nil]; omega) | (simp only [List.length_append]; omega)); (case s_z => with_unfolding_all rfl)) | (refine' sub_tup_any ?N_z ?m_z ?a_z ?b_z ?z_z ?s_z ?_; (case N_z => k_asm); (case m_z => k_mem); (case a_z => omega); (case b_z => first | (simp only [List.length_cons, List.length_nil]; omega) | (simp only [List.length_append, List.length_cons, List.length_nil]; omega) | (simp only [List.length_append]; omega)); (case z_z => first | exact Nat.le_of_ble_eq_true rfl | (simp only [List.length_append, List.length_cons, List.length_nil]; omega) | (simp only [List.length_append]; omega)); (case s_z => with_unfolding_all rfl))); intro _ _)
  k_with "m subscriptTail List" => (k_here; (with_reducible show wpAny _ _ (subscriptTail _ _ (Value.ref _) (Value.int _ _)) _ _ _); k_dflt (first | (refine' sub_list_any ?N_z ?m_z ?a_z ?b_z ?z_z ?s_z ?_; (case N_z => k_asm); (case m_z => k_mem); (case a_z => omega); (case b_z => first | (simp only [List.length_cons, List.length_nil]; omega) | (simp only [List.length_append, List.length_cons, List.length_nil]; omega) | (simp only [List.length_append]; omega)); (case z_z => first | exact Nat.le_of_ble_eq_true rfl | (simp only [List.length_append, List.length_cons, List.length_nil]; omega) | (simp only [List.length_append]; omega)); (case s_z => with_unfolding_all rfl)) | (refine' sub_tup_any ?N_z ?m_z ?a_z ?b_z ?z_z ?s_z ?_; (case N_z => k_asm); (case m_z => k_mem); (case a_z => omega); (case b_z => first | (simp only [List.length_cons, List.length_nil]; omega) | (simp only [List.length_append, List.length_cons, List.length_nil]; omega) | (simp only [List.length_append]; omega)); (case z_z => first | exact Nat.le_of_ble_eq_true rfl | (simp only [List.length_append, List.length_cons, List.length_nil]; omega) | (simp only [List.length_append]; omega)); (case s_z => with_unfolding_all rfl))); intro _ _)
  k_with "m execs cons" => (k_here; (with_reducible show wpAny _ _ _ _ _ (Shared.mk _ _ _ (_ + 1) _)); refine gen_toks ?_; intro (tk : Nat))
  trivial
theorem st2_ct {w : World} : StCt w 2 100 800 23 769 2 := by
  have h0 : StCt w 0 60 600 2 790 0 := @StCt.weak w 0 60 600 2 900 790 0 (@st0_ct w) (by decide)
  have h1 : StCt w 1 80 700 9 783 1 := @stS_ct w 0 60 600 2 790 0 (by decide) (by decide) (by decide) (by decide) (by decide) @h0
  exact @stS_ct w 1 80 700 9 783 1 (by decide) (by decide) (by decide) (by decide) (by decide) @h1

section
variable {prog : Program} {w : World} {A : Around} {E : Value → Shared → Prop} {s : Shared} {env : Env} {h₀ : Heap} {x : Str} {body : List Stmt} {Q : Flow → Shared → Prop} {m₀ : Str → Option Value} {news : Led}

theorem kwloops10 : True := by
  k_with_none
  k_with "m call builtin:len" => (k_here; (with_reducible show wpAny _ _ (call (Value.builtin "len") [Value.ref _]) _ _ _); k_dflt (refine' len_led ?k1_z ?k2_z ?k3_z ?k4_z ?_; (case k1_z => k_asm); (case k2_z => k_mem); (case k3_z => with_reducible assumption); (case k4_z => omega)))
  k_with "m ite" => (k_closed; with_reducible (first | refine ite_tt ?_ | refine ite_ff ?_ | refine PySem.W.ite_neg (by decide) ?_ | refine PySem.W.ite_pos (by decide) ?_))
  k_with "m subscriptTail" => (k_here; (with_reducible show wpAny _ _ (subscriptTail _ _ (Value.ref _) (Value.int _ _)) _ _ _); k_dflt (first | (refine' sub_list ?N_z ?m_z ?a_z ?b_z ?x_z ?s_z ?_; (case N_z => k_asm); (case m_z => k_mem); (case a_z => decide); (case b_z => decide); (case x_z => rfl); (case s_z => with_unfolding_all rfl)) | (refine' sub_tup ?N_z ?m_z ?a_z ?b_z ?j_z ?x_z ?s_z ?_; (case N_z => k_asm); (case m_z => k_mem); (case a_z => decide); (case b_z => decide); (case j_z => rfl); (case x_z => rfl); (case s_z => with_unfolding_all rfl))))
  k_with "m subscriptTail Name Call ref int" => (k_here; (with_reducible show wpAny _ _ (subscriptTail _ _ (Value.ref _) (Value.int _ _)) _ _ _); k_dflt (first | (refine' sub_list_any ?N_z ?m_z ?a_z ?b_z ?z_z ?s_z ?_; (case N_z => k_asm); (case m_z => k_mem); (case a_z => omega); (case b_z => first | (simp only [List.length_cons, List.length_nil]; omega) | (simp only [List.length_append, List.length_cons, List.length_nil]; omega) | (simp only [List.length_append]; omega)); (case z_z => first | exact Nat.le_of_ble_eq_true rfl | (simp only [List.length_append, List.length_cons, List.length_nil]; omega) | (simp only [List.length_append]; omega)); (case s_z => with_unfolding_all rfl)) | (refine' sub_tup_any ?N_z ?m_z ?a_z ?b_z ?z_z ?s_z ?_; (case N_z => k_asm); (case m_z => k_mem); (case a_z => omega); (case b_z => first | (simp only [List.length_cons, List.length_nil]; omega) | (simp only [List.length_append, List.length_cons, List.length_nil]; omega) | (simp only [List.length_append]; omega)); (case z_z => first | exact Nat.le_of_ble_eq_true rfl | (simp only [List.length_append, List.length_cons, List.length_nil]; omega) | (simp only [List.length_append]; omega)); (case s_z => with_unfolding_all rfl))); intro _ _)
  k_with "m subscriptTail Tuple" => (k_here; (with_reducible show wpAny _ _ (subscriptTail _ _ (Value.ref _) (Value.int _ _)) _ _ _); k_dflt (first | (refine' sub_list_any ?N_z ?m_z ?a_z ?b_z ?z_z ?s_z ?_; (case N_z => k_asm); (case m_z => k_mem); (case a_z => omega); (case b_z => first | (simp only [List.length_cons, List.length_nil]; omega) | (simp only [List.length_append, List.length_cons, List.length_nil]; omega) | (simp only [List.length_append]; omega)); (case z_z => first | exact Nat.le_of_ble_eq_true rfl | (simp only [List.length_append, List.length_cons, List.length_nil]; omega) | (simp only [List.length_append]; omega)); (case s_z => with_unfolding_all rfl)) | (refine' sub_tup_any ?N_z ?m_z ?a_z ?b_z ?z_z ?s_z ?_; (case N_z => k_asm); (case m_z => k_mem); (case a_z => omega); (case b_z => first | (simp only [List.length_cons, List.length_nil]; omega) | (simp only [List.length_append, List.length_cons, List.length_nil]; omega) | (simp only [List.length_append]; omega)); (case z_z => first | exact Nat.le_of_ble_eq_true rfl | (simp only [List.length_append, List.length_cons, List.length_nil]; omega) | (simp only [List.length_append]; omega)); (case s_z => with_unfolding_all rfl))); intro _ _)
  k_with "m subscriptTail List" => (k_here; (with_reducible show wpAny _ _ (subscriptTail _ _ (Value.ref _) (Value.int _ _)) _ _ _); k_dflt (first | (refine' sub_list_any ?N_z ?m_z ?a_z ?b_z ?z_z ?s_z ?_; (case N_z => k_asm); (case m_z => k_mem); (case a_z => omega); (case b_z => first | (simp only [List.length_cons, List.length_nil]; omega) | (simp only [List.length_append, List.length_cons, List.length_nil]; omega) | (simp only [List.length_append]; omega)); (case z_z => first | exact Nat.le_of_ble_eq_true rfl | (simp only [List.length_append, List.length_cons, List.length_nil]; omega) | (simp only [List.length_append]; omega)); (case s_z => with_unfolding_all rfl)) | (refine' sub_tup_any ?N_z ?m_z ?a_z ?b_z ?z_z ?s_z ?_; (case N_z => k_asm); (case m_z => k_mem); (case a_z => omega); (case b_z => first | (simp only [List.length_cons, List.length_nil]; omega) | (simp only [List.length_append, List.length_cons, List.length_nil]; omega) | (simp only [List.length_append]; omega)); (case z_z => first | exact Nat.le_of_ble_eq_true rfl | (simp only [List.length_append, List.length_cons, List.length_nil]; omega) | (simp only [List.length_append]; omega)); (case s_z => with_unfolding_all rfl))); intro _ _)
  k_with "m execs cons" => (k_here; (with_reducible show wpAny _ _ _ _ _ (Shared.mk _ _ _ (_ + 1) _)); refine gen_toks ?_; intro (tk : Nat))
  trivial
theorem iter_tup {t : Addr} {vs : List Value} (J : Nat → (Str → Option Value) → Led → Prop)
    (hh : A.handled = none) (F : Fr h₀ env.locals s.heap m₀) (N : News h₀ env.locals s.heap news) (ht : (t, tupO vs) ∈ news)
    (hj : J 0 m₀ news) (hjt : ∀ i m n, J i m n → (t, tupO vs) ∈ n)
    (turn : ∀ I io i v m₁ news₁ h tk, (∀ p ∈ news, @LT.lt Nat _ p.1 I) → vs[i]? = some v → J i m₁ news₁ → (∀ p ∈ news₁, p.1 ≠ I) → Fr h₀ env.locals h (fun y => if y = x then some v else m₁ y) → News h₀ env.locals h ((I, io) :: news₁) →
      wpAny (model prog w) A (execs body env) (UnrPost h₀ env.locals { s with heap := h, toks := tk } I io (J (i + 1)) Q) E { s with heap := h, toks := tk })
    (done : ∀ m₁ news₁ h tk, J vs.length m₁ news₁ → Fr h₀ env.locals h m₁ → News h₀ env.locals h news₁ → Q .next { s with heap := h, toks := tk }) :
    wpAny (model prog w) A (pyIter (.ref t)) (fun it s₂ => LoopAtV prog w A h₀ env x body Q E it s₂) E s := by
  have hT : s.heap.IsTuple t vs.toArray := ⟨_, (N _ ht).1, rfl, 0, rfl⟩
  refine wpAny_pyIter_tuple hT ?_
  have hlt : ∀ p ∈ news, @LT.lt Nat _ p.1 s.heap.objs.size := fun p hp => Heap.lt_size (N p hp).1
  have hne : t ≠ s.heap.objs.size := Nat.ne_of_lt (hlt _ ht)
  have W := Walks.tuple (prog := prog) (w := w) hh s.heap.objs.size t hne vs.toArray
  have hnew := next_is_new F
  rw [List.size_toArray] at W
  refine ⟨_, _, _, vs.length, _, _, m₀, news, J, rfl, W, ?_, ?_, ?_, ⟨⟨_, Heap.get?_push_size _ rfl, rfl, rfl⟩, ⟨_, Heap.get?_push_of_some _ (N _ ht).1, rfl, 0, rfl⟩⟩, F.push _, (fun p hp => ⟨Heap.get?_push_of_some _ (N p hp).1, (N p hp).2⟩), hj, ?_, ?_⟩
  · intro hm
    rcases List.mem_cons.mp hm with e | hm
    · exact absurd F.ns.lt (e ▸ Nat.lt_irrefl _)
    · exact (N _ ht).2.1 (List.mem_singleton.mp hm).symm
  · intro b hb
    rw [List.mem_singleton.mp hb]
    exact hnew
  · intro p hp hI
    exact absurd (hlt p hp) ((List.mem_singleton.mp hI) ▸ Nat.lt_irrefl _)
  · rintro i v m₁ news₁ s₁ own ⟨hh', tk', rfl⟩ hin hP hJ hoff hown hget hall hst F₁ N₁
    obtain ⟨io, hio, hic, hid⟩ := hst.1
    have hmem := hall s.heap.objs.size (by simp) hnew _ hio
    have N₂ : News h₀ env.locals hh' ((s.heap.objs.size, io) :: news₁) := fun p hp => by
      rcases List.mem_cons.mp hp with rfl | hp
      · exact N₁ _ (List.mem_append_left _ hmem)
      · exact N₁ _ (List.mem_append_right _ hp)
    have hP' : vs[i]? = some v := by simpa using hP
    have hoff' : ∀ p ∈ news₁, p.1 ≠ s.heap.objs.size := fun p hp e => hoff p hp (by rw [e]; exact List.mem_singleton.mpr rfl)
    refine wpAny_mono (turn s.heap.objs.size io i v m₁ news₁ hh' tk' hlt hP' hJ hoff' F₁ N₂) (fun f s₂ p => ?_) fun _ _ e => e
    have fin : UnrEnd h₀ env.locals { s with heap := hh', toks := tk' } s.heap.objs.size io (J (i + 1)) s₂ →
        LoopStepU h₀ env.locals [s.heap.objs.size] own (J (i + 1)) { s with heap := hh', toks := tk' } .next s₂ := by
      rintro ⟨h', tk, m', news', e, F', N', ho, r⟩
      refine ⟨rfl, h', tk, m', news', e, F', fun p hp => ?_, fun p hp hI => ho p hp (List.mem_singleton.mp hI), r⟩
      rcases List.mem_append.mp hp with hp | hp
      · have h2 : hh'.get? p.1 = some p.2 := hget p hp
        rcases List.mem_cons.mp (hown p hp) with h1 | h1
        · have h3 : p = (s.heap.objs.size, io) := by
            rw [h1, hio] at h2
            exact Prod.ext h1 (Option.some.inj h2).symm
          rw [h3]; exact N' _ List.mem_cons_self
        · have h1' : p.1 = t := List.mem_singleton.mp h1
          have h4 := (N₁ _ (List.mem_append_right _ (hjt _ _ _ hJ))).1
          have h3 : p = (t, tupO vs) := by
            rw [h1'] at h2
            exact Prod.ext h1' (Option.some.inj (h2.symm.trans h4))
          rw [h3]; exact N' _ (List.mem_cons_of_mem _ (hjt _ _ _ r))
      · exact N' _ (List.mem_cons_of_mem _ hp)
    cases f with
    | ret v => exact .ret p
    | brk => exact .brk p
    | next => exact .next (fin p)
    | cont => exact .cont (fin p)
  · rintro h' tk m' news' F' N' _ hJ
    exact done m' news' h' tk hJ F' N'

theorem iter_rng {r : Addr} {a₀ b₀ : Int} {t₀ u₀ v₀ : Tok} {n : Nat} (J : Nat → (Str → Option Value) → Led → Prop)
    (hh : A.handled = none) (hr : IsRange s.heap r a₀ b₀ 1 t₀ u₀ v₀) (hsmall : Builtin.Range.small a₀ b₀ 1 = true) (hn : Builtin.Range.rangeSize a₀ b₀ 1 = (n : Int)) (F : Fr h₀ env.locals s.heap m₀) (N : News h₀ env.locals s.heap news)
    (hj : J 0 m₀ news)
    (turn : ∀ I io i t m₁ news₁ h tk, (∀ p ∈ news, @LT.lt Nat _ p.1 I) → i < n → J i m₁ news₁ → (∀ p ∈ news₁, p.1 ≠ I) → Fr h₀ env.locals h (fun y => if y = x then some (.int (a₀ + (i : Int)) t) else m₁ y) → News h₀ env.locals h ((I, io) :: news₁) →
      wpAny (model prog w) A (execs body env) (UnrPost h₀ env.locals { s with heap := h, toks := tk } I io (J (i + 1)) Q) E { s with heap := h, toks := tk })
    (done : ∀ m₁ news₁ h tk, J n m₁ news₁ → Fr h₀ env.locals h m₁ → News h₀ env.locals h news₁ → Q .next { s with heap := h, toks := tk }) :
    wpAny (model prog w) A (pyIter (.ref r)) (fun it s₂ => LoopAtV prog w A h₀ env x body Q E it s₂) E s := by
  refine wpAny_pyIter_range hr hsmall ?_
  have hlt : ∀ p ∈ news, @LT.lt Nat _ p.1 s.heap.objs.size := fun p hp => Heap.lt_size (N p hp).1
  have W : Walks prog w A s.heap.objs.size [s.heap.objs.size] [s.heap.objs.size] n (fun i v => i < n ∧ ∃ t, v = .int (a₀ + i * 1) t)
      (fun i h => IsRangeIter h s.heap.objs.size (a₀ + (i : Nat) * 1) ((n : Int) - (i : Nat)) 1) := (Walks.range hh _ a₀ 1 n).bound
  have hnew := next_is_new F
  refine ⟨_, _, _, n, _, _, m₀, news, J, rfl, W, ?_, ?_, ?_, (by show IsRangeIter _ _ _ _ _; rw [hn]; simpa using Heap.get?_push_size _ rfl), F.push _, (fun p hp => ⟨Heap.get?_push_of_some _ (N p hp).1, (N p hp).2⟩), hj, ?_, ?_⟩
  · intro hm
    exact absurd F.ns.lt ((List.mem_singleton.mp hm) ▸ Nat.lt_irrefl _)
  · intro b hb
    rw [List.mem_singleton.mp hb]
    exact hnew
  · intro p hp hI
    exact absurd (hlt p hp) ((List.mem_singleton.mp hI) ▸ Nat.lt_irrefl _)
  · rintro i v m₁ news₁ s₁ own ⟨hh', tk', rfl⟩ hin ⟨_, t, rfl⟩ hJ hoff hown hget hall hst F₁ N₁
    obtain ⟨io, hst'⟩ : ∃ io, hh'.get? s.heap.objs.size = some io := ⟨_, hst⟩
    have hmem := hall s.heap.objs.size (List.mem_singleton.mpr rfl) hnew _ hst'
    have e1 : a₀ + (i : Int) * 1 = a₀ + (i : Int) := by rw [Int.mul_one]
    rw [e1] at F₁
    have N₂ : News h₀ env.locals hh' ((s.heap.objs.size, io) :: news₁) := fun p hp => by
      rcases List.mem_cons.mp hp with rfl | hp
      · exact N₁ _ (List.mem_append_left _ hmem)
      · exact N₁ _ (List.mem_append_right _ hp)
    have hoff' : ∀ p ∈ news₁, p.1 ≠ s.heap.objs.size := fun p hp e => hoff p hp (by rw [e]; exact List.mem_singleton.mpr rfl)
    refine wpAny_mono (turn s.heap.objs.size io i t m₁ news₁ hh' tk' hlt hin hJ hoff' F₁ N₂) (fun f s₂ p => ?_) fun _ _ e => e
    have fin : UnrEnd h₀ env.locals { s with heap := hh', toks := tk' } s.heap.objs.size io (J (i + 1)) s₂ →
        LoopStepU h₀ env.locals [s.heap.objs.size] own (J (i + 1)) { s with heap := hh', toks := tk' } .next s₂ := by
      rintro ⟨h', tk, m', news', e, F', N', ho, r⟩
      refine ⟨rfl, h', tk, m', news', e, F', fun p hp => ?_, fun p hp hI => ho p hp (List.mem_singleton.mp hI), r⟩
      rcases List.mem_append.mp hp with hp | hp
      · have h1 : p.1 = s.heap.objs.size := List.mem_singleton.mp (hown p hp)
        have h2 : hh'.get? p.1 = some p.2 := hget p hp
        have h3 : p = (s.heap.objs.size, io) := by
          rw [h1, hst'] at h2
          exact Prod.ext h1 (Option.some.inj h2).symm
        rw [h3]; exact N' _ List.mem_cons_self
      · exact N' _ (List.mem_cons_of_mem _ hp)
    cases f with
    | ret v => exact .ret p
    | brk => exact .brk p
    | next => exact .next (fin p)
    | cont => exact .cont (fin p)
  · rintro h' tk m' news' F' N' _ hJ
    exact done m' news' h' tk hJ F' N'

theorem iter_rng0 {r : Addr} {b₀ : Int} {t₀ u₀ v₀ : Tok} (J : Nat → (Str → Option Value) → Led → Prop)
    (hh : A.handled = none) (hr : IsRange s.heap r 0 b₀ 1 t₀ u₀ v₀) (h0 : 0 ≤ b₀) (h1 : b₀ ≤ 1000) (F : Fr h₀ env.locals s.heap m₀) (N : News h₀ env.locals s.heap news)
    (hj : J 0 m₀ news)
    (turn : ∀ I io (i : Nat) t m₁ news₁ h tk, (∀ p ∈ news, @LT.lt Nat _ p.1 I) → (i : Int) < b₀ → J i m₁ news₁ → (∀ p ∈ news₁, p.1 ≠ I) → Fr h₀ env.locals h (fun y => if y = x then some (.int (0 + (i : Int)) t) else m₁ y) → News h₀ env.locals h ((I, io) :: news₁) →
      wpAny (model prog w) A (execs body env) (UnrPost h₀ env.locals { s with heap := h, toks := tk } I io (J (i + 1)) Q) E { s with heap := h, toks := tk })
    (done : ∀ m₁ news₁ h tk, J b₀.toNat m₁ news₁ → Fr h₀ env.locals h m₁ → News h₀ env.locals h news₁ → Q .next { s with heap := h, toks := tk }) :
    wpAny (model prog w) A (pyIter (.ref r)) (fun it s₂ => LoopAtV prog w A h₀ env x body Q E it s₂) E s := by
  refine iter_rng J hh hr ?_ ?_ F N hj (fun I io i t m₁ news₁ h tk a b c d e f => turn I io i t m₁ news₁ h tk a (by omega) c d e f) done
  · exact small_one (by omega) (by omega) (by omega) (by omega)
  · rw [rangeSize_nat, Int.sub_zero]
end
theorem unrW_end {h₀ h' : Heap} {L I : Addr} {o : Obj} {rest : Led} {all : Led} {restP : (Str → Option Value) → Led → Prop} {s₁ : Shared} {tk : Nat} {m' : Str → Option Value} (F : Fr h₀ L h' m') (N : News h₀ L h' all) (U : Pull (I, o) all rest) (off : ∀ p ∈ rest, p.1 ≠ I) (r : restP m' rest) :
    UnrEndW h₀ L s₁ [(I, o)] restP { s₁ with heap := h', toks := tk } :=
  ⟨h', tk, m', rest, rfl, F, newsPull N U, fun p hp q hq => by rw [List.mem_singleton.mp hq]; exact off p hp, r⟩

inductive StsIs (N : Led) : List Value → List St → Prop
  | nil : StsIs N [] []
  | cons {v vs x xs} (h : StIs N v x) (k : x.ok 2) (r : StsIs N vs xs) : StsIs N (v :: vs) (x :: xs)
theorem kwpolicy11 : True := by
  k_with_none
  k_with "m call builtin:len" => (k_here; (with_reducible show wpAny _ _ (call (Value.builtin "len") [Value.ref _]) _ _ _); k_dflt (refine' len_led ?k1_z ?k2_z ?k3_z ?k4_z ?_; (case k1_z => k_asm); (case k2_z => k_mem); (case k3_z => with_reducible assumption); (case k4_z => omega)))
  k_with "m ite" => (k_closed; with_reducible (first | refine ite_tt ?_ | refine ite_ff ?_ | refine PySem.W.ite_neg (by decide) ?_ | refine PySem.W.ite_pos (by decide) ?_))
  k_with "m subscriptTail" => (k_here; (with_reducible show wpAny _ _ (subscriptTail _ _ (Value.ref _) (Value.int _ _)) _ _ _); k_dflt (first | (refine' sub_list ?N_z ?m_z ?a_z ?b_z ?x_z ?s_z ?_; (case N_z => k_asm); (case m_z => k_mem); (case a_z => decide); (case b_z => decide); (case x_z => rfl); (case s_z => with_unfolding_all rfl)) | (refine' sub_tup ?N_z ?m_z ?a_z ?b_z ?j_z ?x_z ?s_z ?_; (case N_z => k_asm); (case m_z => k_mem); (case a_z => decide); (case b_z => decide); (case j_z => rfl); (case x_z => rfl); (case s_z => with_unfolding_all rfl))))
  k_with "m subscriptTail Name Call ref int" => (k_here; (with_reducible show wpAny _ _ (subscriptTail _ _ (Value.ref _) (Value.int _ _)) _ _ _); k_dflt (first | (refine' sub_list_any ?N_z ?m_z ?a_z ?b_z ?z_z ?s_z ?_; (case N_z => k_asm); (case m_z => k_mem); (case a_z => omega); (case b_z => first | (simp only [List.length_cons, List.length_nil]; omega) | (simp only [List.length_append, List.length_cons, List.length_nil]; omega) | (simp only [List.length_append]; omega)); (case z_z => first | exact Nat.le_of_ble_eq_true rfl | (simp only [List.length_append, List.length_cons, List.length_nil]; omega) | (simp only [List.length_append]; omega)); (case s_z => with_unfolding_all rfl)) | (refine' sub_tup_any ?N_z ?m_z ?a_z ?b_z ?z_z ?s_z ?_; (case N_z => k_asm); (case m_z => k_mem); (case a_z => omega); (case b_z => first | (simp only [List.length_cons, List.length_nil]; omega) | (simp only [List.length_append, List.length_cons, List.length_nil]; omega) | (simp only [List.length_append]; omega)); (case z_z => first | exact Nat.le_of_ble_eq_true rfl | (simp only [List.length_append, List.length_cons, List.length_nil]; omega) | (simp only [List.length_append]; omega)); (case s_z => with_unfolding_all rfl))); intro _ _)
  k_with "m subscriptTail Tuple" => (k_here; (with_reducible show wpAny _ _ (subscriptTail _ _ (Value.ref _) (Value.int _ _)) _ _ _); k_dflt (first | (refine' sub_list_any ?N_z ?m_z ?a_z ?b_z ?z_z ?s_z ?_; (case N_z => k_asm); (case m_z => k_mem); (case a_z => omega); (case b_z => first | (simp only [List.length_cons, List.length_nil]; omega) | (simp only [List.length_append, List.length_cons, List.length_nil]; omega) | (simp only [List.length_append]; omega)); (case z_z => first | exact Nat.le_of_ble_eq_true rfl | (simp only [List.length_append, List.length_cons, List.length_nil]; omega) | (simp only [List.length_append]; omega)); (case s_z => with_unfolding_all rfl)) | (refine' sub_tup_any ?N_z ?m_z ?a_z ?b_z ?z_z ?s_z ?_; (case N_z => k_asm); (case m_z => k_mem); (case a_z => omega); (case b_z => first | (simp only [List.length_cons, List.length_nil]; omega) | (simp only [List.length_append, List.length_cons, List.length_nil]; omega) | (simp only [List.length_append]; omega)); (case z_z => first | exact Nat.le_of_ble_eq_true rfl | (simp only [List.length_append, List.length_cons, List.length_nil]; omega) | (simp only [List.length_append]; omega)); (case s_z => with_unfolding_all rfl))); intro _ _)
  k_with "m subscriptTail List" => (k_here; (with_reducible show wpAny _ _ (subscriptTail _ _ (Value.ref _) (Value.int _ _)) _ _ _); k_dflt (first | (refine' sub_list_any ?N_z ?m_z ?a_z ?b_z ?z_z ?s_z ?_; (case N_z => k_asm); (case m_z => k_mem); (case a_z => omega); (case b_z => first | (simp only [List.length_cons, List.length_nil]; omega) | (simp only [List.length_append, List.length_cons, List.length_nil]; omega) | (simp only [List.length_append]; omega)); (case z_z => first | exact Nat.le_of_ble_eq_true rfl | (simp only [List.length_append, List.length_cons, List.length_nil]; omega) | (simp only [List.length_append]; omega)); (case s_z => with_unfolding_all rfl)) | (refine' sub_tup_any ?N_z ?m_z ?a_z ?b_z ?z_z ?s_z ?_; (case N_z => k_asm); (case m_z => k_mem); (case a_z => omega); (case b_z => first | (simp only [List.length_cons, List.length_nil]; omega) | (simp only [List.length_append, List.length_cons, List.length_nil]; omega) | (simp only [List.length_append]; omega)); (case z_z => first | exact Nat.le_of_ble_eq_true rfl | (simp only [List.length_append, List.length_cons, List.length_nil]; omega) | (simp only [List.length_append]; omega)); (case s_z => with_unfolding_all rfl))); intro _ _)
  k_with "m execs cons" => (k_here; (with_reducible show wpAny _ _ _ _ _ (Shared.mk _ _ _ (_ + 1) _)); refine gen_toks ?_; intro (tk : Nat))
  trivial
theorem StsIs.mono {N N' : Led} {vs : List Value} {xs : List St} (h : StsIs N vs xs) (s : ∀ p ∈ N, p ∈ N') : StsIs N' vs xs := by
  induction h with
  | nil => exact .nil
  | cons h k _ r => exact .cons (h.mono s) k r
theorem StsIs.snoc {N : Led} {vs : List Value} {xs : List St} {v : Value} {x : St} (h : StsIs N vs xs) (h' : StIs N v x) (k : x.ok 2) : StsIs N (vs ++ [v]) (xs ++ [x]) := by
  induction h with
  | nil => exact .cons h' k .nil
  | cons h k _ r => exact .cons h k r
theorem StsIs.length {N : Led} {vs : List Value} {xs : List St} (h : StsIs N vs xs) : vs.length = xs.length := by
  induction h with
  | nil => rfl
  | cons h k _ r => simp [r]

def PJ (b l : Addr) (n : Nat) (D : Addr) (sp : Int) (R : Led) (m₀ : Str → Option Value) (i : Nat) (m : Str → Option Value) (news : Led) : Prop :=
  ∃ tv tl svs sts sp' t' n', m = (fun y => if y = Str.ofString "turn" then tv else m₀ y) ∧ news = (b, boxO l n sp' t') :: (D, PySem.W.listOf (svs : List Value).toArray n') :: (tl ++ R) ∧
    Abv b R tl ∧ Abv D R tl ∧ sp ≤ sp' ∧ sp' ≤ sp + 23 * (i : Int) ∧ StsIs tl svs sts ∧ sts.length = i
theorem PJ.start {b l : Addr} {n : Nat} {D : Addr} {sp : Int} {R : Led} {m₀ : Str → Option Value} {t : Tok} {n' : Nat} : PJ b l n D sp R m₀ 0 m₀ ((b, boxO l n sp t) :: (D, PySem.W.listOf ([] : List Value).toArray n') :: R) :=
  ⟨m₀ (Str.ofString "turn"), [], [], [], sp, t, n', by funext y; by_cases h : y = Str.ofString "turn" <;> simp [h], rfl, .nil, .nil, by omega, by omega, .nil, rfl⟩

inductive TermsIs (N : Led) : List Value → List (List St) → Prop
  | nil : TermsIs N [] []
  | cons {a d nm tn svs sts vs xs} (h : (a, tupO [.str nm tn, .ref d]) ∈ N) (hd : (d, tupO svs) ∈ N) (k : StsIs N svs sts) (hl : sts.length ≤ 10) (r : TermsIs N vs xs) : TermsIs N (.ref a :: vs) (sts :: xs)
theorem TermsIs.mono {N N' : Led} {vs : List Value} {xs : List (List St)} (h : TermsIs N vs xs) (s : ∀ p ∈ N, p ∈ N') : TermsIs N' vs xs := by
  induction h with
  | nil => exact .nil
  | cons h hd k hl _ r => exact .cons (s _ h) (s _ hd) (k.mono s) hl r
theorem TermsIs.snoc {N : Led} {vs : List Value} {xs : List (List St)} {a d nm tn svs sts} (h : TermsIs N vs xs) (h' : (a, tupO [.str nm tn, .ref d]) ∈ N) (hd : (d, tupO svs) ∈ N) (k : StsIs N svs sts) (hl : sts.length ≤ 10) : TermsIs N (vs ++ [.ref a]) (xs ++ [sts]) := by
  induction h with
  | nil => exact .cons h' hd k hl .nil
  | cons h hd k hl _ r => exact .cons h hd k hl r
theorem TermsIs.length {N : Led} {vs : List Value} {xs : List (List St)} (h : TermsIs N vs xs) : vs.length = xs.length := by
  induction h with
  | nil => rfl
  | cons h hd k hl _ r => simp [r]

def PO (b l : Addr) (n : Nat) (T : Addr) (sp : Int) (R : Led) (m₀ : Str → Option Value) (i : Nat) (m : Str → Option Value) (news : Led) : Prop :=
  ∃ tv dv av tl tvs terms sp' t' n', m = (fun y => if y = Str.ofString "turn" then tv else if y = Str.ofString "deeds" then dv else if y = Str.ofString "at" then av else m₀ y) ∧ news = (b, boxO l n sp' t') :: (T, PySem.W.listOf (tvs : List Value).toArray n') :: (tl ++ R) ∧
    Abv b R tl ∧ Abv T R tl ∧ sp ≤ sp' ∧ sp' ≤ sp + 80 * (i : Int) ∧ TermsIs tl tvs terms ∧ terms.length = i
theorem PO.start {b l : Addr} {n : Nat} {T : Addr} {sp : Int} {R : Led} {m₀ : Str → Option Value} {t : Tok} {n' : Nat} : PO b l n T sp R m₀ 0 m₀ ((b, boxO l n sp t) :: (T, PySem.W.listOf ([] : List Value).toArray n') :: R) :=
  ⟨m₀ (Str.ofString "turn"), m₀ (Str.ofString "deeds"), m₀ (Str.ofString "at"), [], [], [], sp, t, n', by
    funext y
    (repeat' split) <;> first | rfl | (rename_i h; rw [h]), rfl, .nil, .nil, by omega, by omega, .nil, rfl⟩

theorem PJ.close {b l : Addr} {n : Nat} {D : Addr} {sp : Int} {R : Led} {m₀ : Str → Option Value} {i : Nat} {h₀ h' : Heap} {L I : Addr} {io : Obj} {s₁ : Shared} {tk : Nat} {tl tl3 : Led} {svs : List Value} {sts : List St} {v : Value} {x : St} {sp2 sp3 : Int} {t3 : Tok} {n3 : Nat} {o1 o2 : Obj} {tv tv' : Option Value}
    (F : Fr h₀ L h' (fun y => if y = Str.ofString "turn" then tv' else if y = Str.ofString "turn" then tv else m₀ y)) (N : News h₀ L h' ((D, PySem.W.listOf (svs ++ [v]).toArray n3) :: (b, boxO l n sp3 t3) :: (tl3 ++ ((I, io) :: (tl ++ R)))))
    (hoff : ∀ p ∈ (b, o1) :: (D, o2) :: (tl ++ R), p.1 ≠ I) (aB : Abv b R tl) (aD : Abv D R tl) (a3 : Abv b ((I, io) :: (D, o2) :: (tl ++ R)) tl3)
    (b1 : sp ≤ sp2) (b2 : sp2 ≤ sp + 23 * (i : Int)) (c1 : sp2 ≤ sp3) (c2 : sp3 ≤ sp2 + 23) (hs : StsIs tl svs sts) (hl : sts.length = i) (hx : StIs tl3 v x) (hk : x.ok 2) :
    UnrEnd h₀ L s₁ I io (PJ b l n D sp R m₀ (i + 1)) { s₁ with heap := h', toks := tk } := by
  obtain ⟨h1, hoff⟩ := List.forall_mem_cons.mp hoff
  obtain ⟨h2, hoff⟩ := List.forall_mem_cons.mp hoff
  obtain ⟨h3, h4⟩ := List.forall_mem_append.mp hoff
  have a4 : ∀ q ∈ tl3, q.1 ≠ I := fun q hq => Nat.ne_of_gt (a3.2 q hq (I, io) (by simp))
  have e : (fun y => if y = Str.ofString "turn" then tv' else if y = Str.ofString "turn" then tv else m₀ y) = fun y => if y = Str.ofString "turn" then tv' else m₀ y := by
    funext y
    (repeat' split) <;> first | rfl | contradiction
  rw [e] at F
  refine UnrEnd.intro F N ((b, boxO l n sp3 t3) :: (D, PySem.W.listOf (svs ++ [v]).toArray n3) :: ((tl3 ++ tl) ++ R)) (fun p hp => ?_) ?_ ⟨_, tl3 ++ tl, svs ++ [v], sts ++ [x], sp3, t3, n3, rfl, rfl, ?_, ?_, by omega, by omega, ?_, by simp [hl]⟩
  · simp only [List.mem_cons, List.mem_append] at hp ⊢
    rcases hp with rfl | rfl | rfl | (hp | hp) | hp <;> simp [*]
  · refine List.forall_mem_cons.mpr ⟨h1, List.forall_mem_cons.mpr ⟨h2, List.forall_mem_append.mpr ⟨List.forall_mem_append.mpr ⟨a4, h3⟩, h4⟩⟩⟩
  · exact Abv.app a3 (fun p hp => by simp [hp]) aB
  · exact Abv.app (a3.low (d := D) (o := o2) (by simp)) (fun p hp => by simp [hp]) aD
  · exact StsIs.snoc (hs.mono fun p hp => by simp [hp]) (hx.mono fun p hp => by simp [hp]) hk

theorem PO.close {b l : Addr} {n : Nat} {T : Addr} {sp : Int} {R : Led} {m₀ : Str → Option Value} {i : Nat} {h₀ h' : Heap} {L I : Addr} {io : Obj} {s₁ : Shared} {tk : Nat} {tl tl2 : Led} {svs tvs : List Value} {sts : List St} {terms : List (List St)} {sp1 sp2 : Int} {t3 : Tok} {n2 n3 : Nat} {D d a : Addr} {nm : Str} {tn : Tok} {o1 o2 o3 : Obj} {m' : Str → Option Value}
    (F : Fr h₀ L h' m') (em : ∀ y, y ≠ Str.ofString "turn" → y ≠ Str.ofString "deeds" → y ≠ Str.ofString "at" → m' y = m₀ y)
    (N : News h₀ L h' ((T, PySem.W.listOf (tvs ++ [Value.ref a]).toArray n3) :: (a, tupO [.str nm tn, .ref d]) :: (d, tupO svs) :: (b, boxO l n sp2 t3) :: (D, PySem.W.listOf svs.toArray n2) :: (tl2 ++ ((I, io) :: (tl ++ R)))))
    (hoff : ∀ p ∈ (b, o1) :: (T, o2) :: (tl ++ R), p.1 ≠ I) (aB : Abv b R tl) (aT : Abv T R tl) (aB2 : Abv b ((I, io) :: (T, o3) :: (tl ++ R)) tl2)
    (ld : ∀ p ∈ (b, boxO l n sp2 t3) :: (D, PySem.W.listOf svs.toArray n2) :: (tl2 ++ ((I, io) :: (T, o3) :: (tl ++ R))), @LT.lt Nat _ p.1 d)
    (la : ∀ p ∈ (d, tupO svs) :: (b, boxO l n sp2 t3) :: (D, PySem.W.listOf svs.toArray n2) :: (tl2 ++ ((I, io) :: (T, o3) :: (tl ++ R))), @LT.lt Nat _ p.1 a)
    (b1 : sp ≤ sp1) (b2 : sp1 ≤ sp + 80 * (i : Int)) (c1 : sp1 ≤ sp2) (c2 : sp2 ≤ sp1 + 80) (ht : TermsIs tl tvs terms) (hl : terms.length = i) (hs : StsIs tl2 svs sts) (hsl : sts.length ≤ 10) :
    UnrEnd h₀ L s₁ I io (PO b l n T sp R m₀ (i + 1)) { s₁ with heap := h', toks := tk } := by
  obtain ⟨h1, hoff⟩ := List.forall_mem_cons.mp hoff
  obtain ⟨h2, hoff⟩ := List.forall_mem_cons.mp hoff
  obtain ⟨h3, h4⟩ := List.forall_mem_append.mp hoff
  have a4 : ∀ q ∈ tl2, q.1 ≠ I := fun q hq => Nat.ne_of_gt (aB2.2 q hq (I, io) (by simp))
  have em' : m' = (fun y => if y = Str.ofString "turn" then m' (Str.ofString "turn") else if y = Str.ofString "deeds" then m' (Str.ofString "deeds") else if y = Str.ofString "at" then m' (Str.ofString "at") else m₀ y) := by
    funext y
    (repeat' split) <;> first | (rename_i h; rw [h]) | exact em y (by assumption) (by assumption) (by assumption)
  refine UnrEnd.intro F N ((b, boxO l n sp2 t3) :: (T, PySem.W.listOf (tvs ++ [Value.ref a]).toArray n3) :: (((a, tupO [.str nm tn, .ref d]) :: (d, tupO svs) :: (tl2 ++ tl)) ++ R)) (fun p hp => ?_) ?_
    ⟨m' (Str.ofString "turn"), m' (Str.ofString "deeds"), m' (Str.ofString "at"), (a, tupO [.str nm tn, .ref d]) :: (d, tupO svs) :: (tl2 ++ tl), tvs ++ [Value.ref a], terms ++ [sts], sp2, t3, n3, em', rfl, ?_, ?_, by omega, by omega, ?_, by simp [hl]⟩
  · simp only [List.mem_cons, List.mem_append, List.cons_append] at hp ⊢
    rcases hp with rfl | rfl | rfl | rfl | rfl | (hp | hp) | hp <;> simp [*]
  · refine List.forall_mem_cons.mpr ⟨h1, List.forall_mem_cons.mpr ⟨h2, ?_⟩⟩
    refine List.forall_mem_append.mpr ⟨List.forall_mem_cons.mpr ⟨?_, List.forall_mem_cons.mpr ⟨?_, List.forall_mem_append.mpr ⟨a4, h3⟩⟩⟩, h4⟩
    · exact Nat.ne_of_gt (la (I, io) (by simp))
    · exact Nat.ne_of_gt (ld (I, io) (by simp))
  · refine Abv.cons (la (b, boxO l n sp2 t3) (by simp)) (fun p hp => la p (by simp [hp])) (Abv.cons (ld (b, boxO l n sp2 t3) (by simp)) (fun p hp => ld p (by simp [hp])) (Abv.app aB2 (fun p hp => by simp [hp]) aB))
  · refine Abv.cons (la (T, o3) (by simp)) (fun p hp => la p (by simp [hp])) (Abv.cons (ld (T, o3) (by simp)) (fun p hp => ld p (by simp [hp])) (Abv.app (aB2.low (d := T) (o := o3) (by simp)) (fun p hp => by simp [hp]) aT))
  · exact TermsIs.snoc (ht.mono fun p hp => by simp [hp]) (d := d) (nm := nm) (tn := tn) (svs := svs) (by simp) (by simp) (hs.mono fun p hp => by simp [hp]) hsl

inductive PolIs (N : Led) : Value → List (List St) → Bool → Prop
  | acc {p ts fb tvs terms t1} (h : (p, tupO [.ref ts, .ref fb]) ∈ N) (ht : (ts, tupO tvs) ∈ N) (hf : (fb, tupO [.str "accept" t1]) ∈ N) (k : TermsIs N tvs terms) (hl : terms.length ≤ 2) : PolIs N (.ref p) terms true
  | rej {p ts fb tvs terms t1} (h : (p, tupO [.ref ts, .ref fb]) ∈ N) (ht : (ts, tupO tvs) ∈ N) (hf : (fb, tupO [.str "reject" t1]) ∈ N) (k : TermsIs N tvs terms) (hl : terms.length ≤ 2) : PolIs N (.ref p) terms false
theorem PolIs.mono {N N' : Led} {v : Value} {xs : List (List St)} {c : Bool} (h : PolIs N v xs c) (s : ∀ p ∈ N, p ∈ N') : PolIs N' v xs c := by
  cases h with
  | acc h ht hf k hl => exact .acc (s _ h) (s _ ht) (s _ hf) (k.mono s) hl
  | rej h ht hf k hl => exact .rej (s _ h) (s _ ht) (s _ hf) (k.mono s) hl

section

theorem kwpolicy12 : True := by
  k_with_none
  k_with "m call builtin:len" => (k_here; (with_reducible show wpAny _ _ (call (Value.builtin "len") [Value.ref _]) _ _ _); k_dflt (refine' len_led ?k1_z ?k2_z ?k3_z ?k4_z ?_; (case k1_z => k_asm); (case k2_z => k_mem); (case k3_z => with_reducible assumption); (case k4_z => omega)))
  k_with "m ite" => (k_closed; with_reducible (first | refine ite_tt ?_ | refine ite_ff ?_ | refine PySem.W.ite_neg (by decide) ?_ | refine PySem.W.ite_pos (by decide) ?_))
  k_with "m subscriptTail" => (k_here; (with_reducible show wpAny _ _ (subscriptTail _ _ (Value.ref _) (Value.int _ _)) _ _ _); k_dflt (first | (refine' sub_list ?N_z ?m_z ?a_z ?b_z ?x_z ?s_z ?_; (case N_z => k_asm); (case m_z => k_mem); (case a_z => decide); (case b_z => decide); (case x_z => rfl); (case s_z => with_unfolding_all rfl)) | (refine' sub_tup ?N_z ?m_z ?a_z ?b_z ?j_z ?x_z ?s_z ?_; (case N_z => k_asm); (case m_z => k_mem); (case a_z => decide); (case b_z => decide); (case j_z => rfl); (case x_z => rfl); (case s_z => with_unfolding_all rfl))))
  k_with "m subscriptTail Name Call ref int" => (k_here; (with_reducible show wpAny _ _ (subscriptTail _ _ (Value.ref _) (Value.int _ _)) _ _ _); k_dflt (first | (refine' sub_list_any ?N_z ?m_z ?a_z ?b_z ?z_z ?s_z ?_; (case N_z => k_asm); (case m_z => k_mem); (case a_z => omega); (case b_z => first | (simp only [List.length_cons, List.length_nil]; omega) | (simp only [List.length_append, List.length_cons, List.length_nil]; omega) | (simp only [List.length_append]; omega)); (case z_z => first | exact Nat.le_of_ble_eq_true rfl | (simp only [List.length_append, List.length_cons, List.length_nil]; omega) | (simp only [List.length_append]; omega)); (case s_z => with_unfolding_all rfl)) | (refine' sub_tup_any ?N_z ?m_z ?a_z ?b_z ?z_z ?s_z ?_; (case N_z => k_asm); (case m_z => k_mem); (case a_z => omega); (case b_z => first | (simp only [List.length_cons, List.length_nil]; omega) | (simp only [List.length_append, List.length_cons, List.length_nil]; omega) | (simp only [List.length_append]; omega)); (case z_z => first | exact Nat.le_of_ble_eq_true rfl | (simp only [List.length_append, List.length_cons, List.length_nil]; omega) | (simp only [List.length_append]; omega)); (case s_z => with_unfolding_all rfl))); intro _ _)
  k_with "m subscriptTail Tuple" => (k_here; (with_reducible show wpAny _ _ (subscriptTail _ _ (Value.ref _) (Value.int _ _)) _ _ _); k_dflt (first | (refine' sub_list_any ?N_z ?m_z ?a_z ?b_z ?z_z ?s_z ?_; (case N_z => k_asm); (case m_z => k_mem); (case a_z => omega); (case b_z => first | (simp only [List.length_cons, List.length_nil]; omega) | (simp only [List.length_append, List.length_cons, List.length_nil]; omega) | (simp only [List.length_append]; omega)); (case z_z => first | exact Nat.le_of_ble_eq_true rfl | (simp only [List.length_append, List.length_cons, List.length_nil]; omega) | (simp only [List.length_append]; omega)); (case s_z => with_unfolding_all rfl)) | (refine' sub_tup_any ?N_z ?m_z ?a_z ?b_z ?z_z ?s_z ?_; (case N_z => k_asm); (case m_z => k_mem); (case a_z => omega); (case b_z => first | (simp only [List.length_cons, List.length_nil]; omega) | (simp only [List.length_append, List.length_cons, List.length_nil]; omega) | (simp only [List.length_append]; omega)); (case z_z => first | exact Nat.le_of_ble_eq_true rfl | (simp only [List.length_append, List.length_cons, List.length_nil]; omega) | (simp only [List.length_append]; omega)); (case s_z => with_unfolding_all rfl))); intro _ _)
  k_with "m subscriptTail List" => (k_here; (with_reducible show wpAny _ _ (subscriptTail _ _ (Value.ref _) (Value.int _ _)) _ _ _); k_dflt (first | (refine' sub_list_any ?N_z ?m_z ?a_z ?b_z ?z_z ?s_z ?_; (case N_z => k_asm); (case m_z => k_mem); (case a_z => omega); (case b_z => first | (simp only [List.length_cons, List.length_nil]; omega) | (simp only [List.length_append, List.length_cons, List.length_nil]; omega) | (simp only [List.length_append]; omega)); (case z_z => first | exact Nat.le_of_ble_eq_true rfl | (simp only [List.length_append, List.length_cons, List.length_nil]; omega) | (simp only [List.length_append]; omega)); (case s_z => with_unfolding_all rfl)) | (refine' sub_tup_any ?N_z ?m_z ?a_z ?b_z ?z_z ?s_z ?_; (case N_z => k_asm); (case m_z => k_mem); (case a_z => omega); (case b_z => first | (simp only [List.length_cons, List.length_nil]; omega) | (simp only [List.length_append, List.length_cons, List.length_nil]; omega) | (simp only [List.length_append]; omega)); (case z_z => first | exact Nat.le_of_ble_eq_true rfl | (simp only [List.length_append, List.length_cons, List.length_nil]; omega) | (simp only [List.length_append]; omega)); (case s_z => with_unfolding_all rfl))); intro _ _)
  k_with "m execs cons" => (k_here; (with_reducible show wpAny _ _ _ _ _ (Shared.mk _ _ _ (_ + 1) _)); refine gen_toks ?_; intro (tk : Nat))
  k_with "m call ref" => ((k_here; (with_reducible show wpAny _ _ (call (Value.ref 130) _) _ _ _); first | (k_dflt (refine' ct_use (draw_ct ?hI_z ?hlen_z ?hl_z ?hb_z ?hm_z ?hm2_z ?h0_z ?h1_z) ?B_z ?F_z ?X_z (newsPull ?N_z ?U_z) ?T_z ?hk_z ?hd_z ?hu_z ?_; (case N_z => k_asm); (case U_z => (repeat (first | exact Pull.here | apply Pull.there | apply Pull.app))); (case B_z => k_asm); (case F_z => k_asm); (case X_z => k_asm); (case T_z => k_asm); (case hk_z => first | exact rfl | assumption); (case hd_z => (first | omega | (simp only [depth_caller, depth_deeper]; decide) | ((have hcL9 := cLine_is); (simp only [units_caller, units_deeper, Around.mark_units]); omega) | ((try simp only [depth_deeper, units_deeper, depth_in1, units_in1]); omega) | fail "room")); (case hu_z => (first | omega | (simp only [depth_caller, depth_deeper]; decide) | ((have hcL9 := cLine_is); (simp only [units_caller, units_deeper, Around.mark_units]); omega) | ((try simp only [depth_deeper, units_deeper, depth_in1, units_in1]); omega) | fail "room")); (case hl_z => k_mem); (case hI_z => assumption); (case hlen_z => assumption); (case hb_z => (repeat' (first | assumption | refine List.forall_mem_cons.mpr ⟨?_, ?_⟩ | refine List.forall_mem_append.mpr ⟨?_, ?_⟩ | exact List.forall_mem_nil _ | exact ne_of_abv1 (by assumption) | exact ne_of_abv2 (by assumption) (by k_mem) | exact ne_of_all (by assumption) (by k_mem) | exact ne_of_low1 (by assumption) (by k_mem) | exact ne_of_low (by assumption) (by (repeat' (first | assumption | exact List.forall_mem_nil _ | refine sub_app ?_ ?_ | refine sub_cons ?_ ?_ | k_mem | (intro _ _; k_mem))))))); (case hm_z => decide); (case hm2_z => decide); (case h0_z => omega); (case h1_z => omega)); intro _ _ _ _ _ _ P9; obtain ⟨_, _, _, e9, _, _, en9⟩ := P9; subst e9; subst en9; (try dsimp only)) | refine stop_of ?_))
  k_with "m call ref" => (k_here; (with_reducible show wpAny _ _ (call (Value.ref 144) _) _ _ _); first | (k_dflt (refine' ct_use ((by assumption : StCt _ _ _ _ _ _ _) ?hI_z ?hlen_z ?hl_z ?hb_z ?h0_z ?h1_z ?hz_z) ?B_z ?F_z ?X_z (newsPull ?N_z ?U_z) ?T_z ?hk_z ?hd_z ?hu_z ?_; (case N_z => k_asm); (case U_z => (repeat (first | exact Pull.here | apply Pull.there | apply Pull.app))); (case B_z => k_asm); (case F_z => k_asm); (case X_z => k_asm); (case T_z => k_asm); (case hk_z => first | exact rfl | assumption); (case hd_z => (first | omega | (simp only [depth_caller, depth_deeper]; decide) | ((have hcL9 := cLine_is); (simp only [units_caller, units_deeper, Around.mark_units]); omega) | ((try simp only [depth_deeper, units_deeper, depth_in1, units_in1]); omega) | fail "room")); (case hu_z => (first | omega | (simp only [depth_caller, depth_deeper]; decide) | ((have hcL9 := cLine_is); (simp only [units_caller, units_deeper, Around.mark_units]); omega) | ((try simp only [depth_deeper, units_deeper, depth_in1, units_in1]); omega) | fail "room")); (case hl_z => k_mem); (case hI_z => assumption); (case hlen_z => assumption); (case hb_z => (repeat' (first | assumption | refine List.forall_mem_cons.mpr ⟨?_, ?_⟩ | refine List.forall_mem_append.mpr ⟨?_, ?_⟩ | exact List.forall_mem_nil _ | exact ne_of_abv1 (by assumption) | exact ne_of_abv2 (by assumption) (by k_mem) | exact ne_of_all (by assumption) (by k_mem) | exact ne_of_low1 (by assumption) (by k_mem) | exact ne_of_low (by assumption) (by (repeat' (first | assumption | exact List.forall_mem_nil _ | refine sub_app ?_ ?_ | refine sub_cons ?_ ?_ | k_mem | (intro _ _; k_mem))))))); (case hz_z => omega); (case h0_z => omega); (case h1_z => omega); intro _ _ _ _ _ _ P9; obtain ⟨_, _, _, en9, ab9, _, _, _, _, _⟩ := P9; subst en9; have ab9' := ab9.1; (try dsimp only))) | refine stop_of ?_)
  k_with "m call builtin:list.append" => (k_here; (show wpAny _ _ (call (Value.builtin "list.append") [Value.ref _, _]) _ _ _); first | (k_dflt (refine' append_led ?F_z ?N_z ?U_z ?hne_z ?hz_z ?_; (case F_z => k_asm); (case N_z => k_asm); (case U_z => (repeat (first | exact Pull.here | apply Pull.there | apply Pull.app))); (case hne_z => (repeat' (first | assumption | refine List.forall_mem_cons.mpr ⟨?_, ?_⟩ | refine List.forall_mem_append.mpr ⟨?_, ?_⟩ | exact List.forall_mem_nil _ | exact ne_of_abv1 (by assumption) | exact ne_of_abv2 (by assumption) (by k_mem) | exact ne_of_all (by assumption) (by k_mem) | exact ne_of_low1 (by assumption) (by k_mem) | exact ne_of_low (by assumption) (by (repeat' (first | assumption | exact List.forall_mem_nil _ | refine sub_app ?_ ?_ | refine sub_cons ?_ ?_ | k_mem | (intro _ _; k_mem))))))); (case hz_z => first | omega | exact Nat.le_of_ble_eq_true rfl)); intro _ _ _; (try k_sweep)) | refine stop_of ?_)
  k_with "m call type:range" => (k_here; (with_reducible show wpAny _ _ (call (Value.type "range") [Value.int _ _]) _ _ _); k_dflt (refine' range1_rows ?F_z ?N_z ?_; (case F_z => k_asm); (case N_z => k_asm)); intro _ _ _ _ _ _ _ _ _)
  k_with "m call type:tuple" => (k_here; (with_reducible show wpAny _ _ (call (Value.type "tuple") [Value.ref _]) _ _ _); k_dflt (refine' tuple_led ?F_z ?N_z ?m_z ?z_z ?_; (case F_z => k_asm); (case N_z => k_asm); (case m_z => k_mem); (case z_z => first | omega | exact Nat.le_of_ble_eq_true rfl | exact Nat.le_trans (List.length_filter_le _ _) (Nat.le_of_ble_eq_true rfl))); intro _ _ _ _ _; (try k_sweep))
  k_with "m pyIter ref" => refine stop_of ?_
  k_with "m UnrEnd" => refine stop_of ?_
  k_with "m exec For Name Call cons nil" => (k_here; (rename Fr _ _ _ _ => lF'); (with_unfolding_all refine' For_invVF lF' ?k1_z ?k2_z ?_; (case k1_z => exact rfl); (case k2_z => exact rfl); k_whole))
  trivial
theorem policy_ct {w : World} {b l : Addr} {n n' : Nat} {sp : Int} {t : Tok} {vs : List Value} {ns : List Int} {news : Led}
    (hI : IntsAre vs ns) (hlen : ns.length ≤ 48) (hl : (l, PySem.W.listOf vs.toArray n') ∈ news) (hb : ∀ q ∈ news, q.1 ≠ b) (h0 : 0 ≤ sp) (h1 : sp ≤ 100) :
    Ct w 151 [.ref b] 150 1200 ((b, boxO l n sp t) :: news) (BoxPost b l n sp 170 news fun N r => ∃ terms c, PolIs N r terms c) := by
  have hst : StCt w 2 100 800 23 769 2 := @st2_ct w
  unfold Ct
  k_fill
  intro mean mg mb dp un gd cn cs a ccd cl outer A₀ base h₀ L m s Q E B F X N T hk hd hu hret
  refine wpAny_call ?_
  k_dflt ktr_enter
  k_steps
  unfold Stop
  rename Fr _ _ _ _ => F1
  rename News _ _ _ _ => N1
  rename IsRange _ _ _ _ _ _ _ _ => hR1
  rename (0 : Int) ≤ _ => lo1
  rename _ < (2 : Int) => hi1
  have N2 := newsPull (newsPull N1 (p := (_, PySem.W.listOf ([] : List Value).toArray _)) (by (repeat (first | exact Pull.here | apply Pull.there | apply Pull.app)))) (p := (b, boxO l n _ _)) (by (repeat (first | exact Pull.here | apply Pull.there | apply Pull.app)))
  refine iter_rng0 (PO b l n _ _ _ _) rfl hR1 (by omega) (by omega) F1 N2 PO.start ?turn ?done
  case turn =>
    clear F1 N1 N2 hR1
    rintro I io i ti m₁ news₁ h tk hlI hi ⟨tv, dv, av, tl, tvs, terms, sp', t', nT, rfl, rfl, aB, aT, lo, hi', ht, hti⟩ hoff F1 N1
    k_steps
    unfold Stop
    rename Fr _ _ _ _ => F1
    rename News _ _ _ _ => N1
    rename IsRange _ _ _ _ _ _ _ _ => hR1
    rename (0 : Int) ≤ _ => lo3
    rename _ < (3 : Int) => hi3
    have N2 := newsPull (newsPull N1 (p := (_, PySem.W.listOf ([] : List Value).toArray _)) (by (repeat (first | exact Pull.here | apply Pull.there | apply Pull.app)))) (p := (b, boxO l n _ _)) (by (repeat (first | exact Pull.here | apply Pull.there | apply Pull.app)))
    refine iter_rng0 (PJ b l n _ _ _ _) rfl hR1 (by omega) (by omega) F1 N2 PJ.start ?turn2 ?done2
    case turn2 =>
      clear F1 N1 N2 hR1
      rintro I2 io2 i2 ti2 m2 news2 h2 tk2 hlI2 hi2 ⟨tv2, tl2, svs, sts, sp2, t2, n2, rfl, rfl, aB2, aD2, lo2, hi2', hs, hsi⟩ hoff2 F1 N1
      have hz := hs.length
      k_steps
      unfold Stop
      exact PJ.close (by assumption) (by assumption) hoff2 aB2 aD2 (by assumption) lo2 hi2' (by omega) (by omega) hs hsi (by assumption) (by assumption)
    case done2 =>
      clear F1 N1 N2 hR1
      rintro m2 news2 h2 tk2 ⟨tv2, tl2, svs, sts, sp2, t2, n2, rfl, rfl, aB2, aD2, lo2, hi2', hs, hsi⟩ F1 N1
      have hz := hs.length
      have hz2 := ht.length
      k_steps
      exact PO.close (by assumption) (fun y h1 h2 h3 => by simp [h1, h2, h3]) (by assumption) hoff aB aT aB2 (by assumption) (by assumption) lo hi' (by omega) (by omega) ht hti hs (by omega)
  case done =>
    clear F1 N1 N2 hR1
    rintro m₁ news₁ h tk ⟨tv, dv, av, tl, tvs, terms, sp', t', nT, rfl, rfl, aB, aT, lo, hi', ht, hti⟩ F1 N1
    have hz := ht.length
    k_steps
    (refine box_end (by assumption) (by k_asm) (by k_asm) (by (repeat (first | exact Pull.here | apply Pull.there | apply Pull.app))) (by (repeat (first | exact Spl.nil | apply Spl.cons | apply Spl.app))) (by (repeat' (first | exact Abv.nil | refine Abv.cons ?_ ?_ ?_ | (refine Abv.app (by assumption) ?_ ?_) | assumption | exact lt_of_all (by assumption) (by k_mem) | (exact all_sub (by assumption) (fun _ _ => by k_mem)) | (intro p9 hp9; k_mem)))) (by omega) (by omega) ?_)
    rename (_ ∈ (_ : List Value)) => hv
    simp only [List.mem_cons, List.mem_nil_iff, or_false] at hv
    rcases hv with rfl | rfl
    · exact ⟨terms, true, .acc (by k_mem) (by k_mem) (by k_mem) (TermsIs.mono ht (by (repeat' (first | assumption | exact List.forall_mem_nil _ | refine sub_app ?_ ?_ | refine sub_cons ?_ ?_ | k_mem | (intro _ _; k_mem))))) (by omega)⟩
    · exact ⟨terms, false, .rej (by k_mem) (by k_mem) (by k_mem) (TermsIs.mono ht (by (repeat' (first | assumption | exact List.forall_mem_nil _ | refine sub_app ?_ ?_ | refine sub_cons ?_ ?_ | k_mem | (intro _ _; k_mem))))) (by omega)⟩
end

inductive PathIs (N : Led) : Addr → Bool → Prop
  | two {p sg nm t1 t2 t3} (h : (p, tupO [.ref sg]) ∈ N) (h2 : (sg, tupO [.int 2 t1, .ref nm]) ∈ N) (h3 : (nm, tupO [.int 7 t2, .int 8 t3]) ∈ N) : PathIs N p true
  | one {p sg nm t1 t3} (h : (p, tupO [.ref sg]) ∈ N) (h2 : (sg, tupO [.int 2 t1, .ref nm]) ∈ N) (h3 : (nm, tupO [.int 8 t3]) ∈ N) : PathIs N p false
theorem kwpath13 : True := by
  k_with_none
  k_with "m call builtin:len" => (k_here; (with_reducible show wpAny _ _ (call (Value.builtin "len") [Value.ref _]) _ _ _); k_dflt (refine' len_led ?k1_z ?k2_z ?k3_z ?k4_z ?_; (case k1_z => k_asm); (case k2_z => k_mem); (case k3_z => with_reducible assumption); (case k4_z => omega)))
  k_with "m ite" => (k_closed; with_reducible (first | refine ite_tt ?_ | refine ite_ff ?_ | refine PySem.W.ite_neg (by decide) ?_ | refine PySem.W.ite_pos (by decide) ?_))
  k_with "m subscriptTail" => (k_here; (with_reducible show wpAny _ _ (subscriptTail _ _ (Value.ref _) (Value.int _ _)) _ _ _); k_dflt (first | (refine' sub_list ?N_z ?m_z ?a_z ?b_z ?x_z ?s_z ?_; (case N_z => k_asm); (case m_z => k_mem); (case a_z => decide); (case b_z => decide); (case x_z => rfl); (case s_z => with_unfolding_all rfl)) | (refine' sub_tup ?N_z ?m_z ?a_z ?b_z ?j_z ?x_z ?s_z ?_; (case N_z => k_asm); (case m_z => k_mem); (case a_z => decide); (case b_z => decide); (case j_z => rfl); (case x_z => rfl); (case s_z => with_unfolding_all rfl))))
  k_with "m subscriptTail Name Call ref int" => (k_here; (with_reducible show wpAny _ _ (subscriptTail _ _ (Value.ref _) (Value.int _ _)) _ _ _); k_dflt (first | (refine' sub_list_any ?N_z ?m_z ?a_z ?b_z ?z_z ?s_z ?_; (case N_z => k_asm); (case m_z => k_mem); (case a_z => omega); (case b_z => first | (simp only [List.length_cons, List.length_nil]; omega) | (simp only [List.length_append, List.length_cons, List.length_nil]; omega) | (simp only [List.length_append]; omega)); (case z_z => first | exact Nat.le_of_ble_eq_true rfl | (simp only [List.length_append, List.length_cons, List.length_nil]; omega) | (simp only [List.length_append]; omega)); (case s_z => with_unfolding_all rfl)) | (refine' sub_tup_any ?N_z ?m_z ?a_z ?b_z ?z_z ?s_z ?_; (case N_z => k_asm); (case m_z => k_mem); (case a_z => omega); (case b_z => first | (simp only [List.length_cons, List.length_nil]; omega) | (simp only [List.length_append, List.length_cons, List.length_nil]; omega) | (simp only [List.length_append]; omega)); (case z_z => first | exact Nat.le_of_ble_eq_true rfl | (simp only [List.length_append, List.length_cons, List.length_nil]; omega) | (simp only [List.length_append]; omega)); (case s_z => with_unfolding_all rfl))); intro _ _)
  k_with "m subscriptTail Tuple" => (k_here; (with_reducible show wpAny _ _ (subscriptTail _ _ (Value.ref _) (Value.int _ _)) _ _ _); k_dflt (first | (refine' sub_list_any ?N_z ?m_z ?a_z ?b_z ?z_z ?s_z ?_; (case N_z => k_asm); (case m_z => k_mem); (case a_z => omega); (case b_z => first | (simp only [List.length_cons, List.length_nil]; omega) | (simp only [List.length_append, List.length_cons, List.length_nil]; omega) | (simp only [List.length_append]; omega)); (case z_z => first | exact Nat.le_of_ble_eq_true rfl | (simp only [List.length_append, List.length_cons, List.length_nil]; omega) | (simp only [List.length_append]; omega)); (case s_z => with_unfolding_all rfl)) | (refine' sub_tup_any ?N_z ?m_z ?a_z ?b_z ?z_z ?s_z ?_; (case N_z => k_asm); (case m_z => k_mem); (case a_z => omega); (case b_z => first | (simp only [List.length_cons, List.length_nil]; omega) | (simp only [List.length_append, List.length_cons, List.length_nil]; omega) | (simp only [List.length_append]; omega)); (case z_z => first | exact Nat.le_of_ble_eq_true rfl | (simp only [List.length_append, List.length_cons, List.length_nil]; omega) | (simp only [List.length_append]; omega)); (case s_z => with_unfolding_all rfl))); intro _ _)
  k_with "m subscriptTail List" => (k_here; (with_reducible show wpAny _ _ (subscriptTail _ _ (Value.ref _) (Value.int _ _)) _ _ _); k_dflt (first | (refine' sub_list_any ?N_z ?m_z ?a_z ?b_z ?z_z ?s_z ?_; (case N_z => k_asm); (case m_z => k_mem); (case a_z => omega); (case b_z => first | (simp only [List.length_cons, List.length_nil]; omega) | (simp only [List.length_append, List.length_cons, List.length_nil]; omega) | (simp only [List.length_append]; omega)); (case z_z => first | exact Nat.le_of_ble_eq_true rfl | (simp only [List.length_append, List.length_cons, List.length_nil]; omega) | (simp only [List.length_append]; omega)); (case s_z => with_unfolding_all rfl)) | (refine' sub_tup_any ?N_z ?m_z ?a_z ?b_z ?z_z ?s_z ?_; (case N_z => k_asm); (case m_z => k_mem); (case a_z => omega); (case b_z => first | (simp only [List.length_cons, List.length_nil]; omega) | (simp only [List.length_append, List.length_cons, List.length_nil]; omega) | (simp only [List.length_append]; omega)); (case z_z => first | exact Nat.le_of_ble_eq_true rfl | (simp only [List.length_append, List.length_cons, List.length_nil]; omega) | (simp only [List.length_append]; omega)); (case s_z => with_unfolding_all rfl))); intro _ _)
  k_with "m execs cons" => (k_here; (with_reducible show wpAny _ _ _ _ _ (Shared.mk _ _ _ (_ + 1) _)); refine gen_toks ?_; intro (tk : Nat))
  trivial
theorem PathIs.mono {N N' : Led} {p : Addr} {x : Bool} (h : PathIs N p x) (s : ∀ p ∈ N, p ∈ N') : PathIs N' p x := by
  cases h with
  | two h h2 h3 => exact .two (s _ h) (s _ h2) (s _ h3)
  | one h h2 h3 => exact .one (s _ h) (s _ h2) (s _ h3)

def RoPost (news : Led) (P : Value → Prop) : Value → Led → Prop := fun r news' => news' = news ∧ P r
theorem ro_end {news : Led} {P : Value → Prop} {h₀ h' : Heap} {L : Addr} {m : Str → Option Value} {s : Shared} {Q : Value → Shared → Prop} {r : Value} {full : Led} {tk' : Nat}
    (hret : ∀ r news' h' tk', Fr h₀ L h' m → News h₀ L h' news' → RoPost news P r news' → Q r { s with heap := h', toks := tk' })
    (F : Fr h₀ L h' m) (N : News h₀ L h' full) (S : ∀ p ∈ news, p ∈ full) (hP : P r) : Q r { s with heap := h', toks := tk' } := hret r news h' tk' F (newsSub N S) ⟨rfl, hP⟩

theorem in_any_ints {k : Int} : ∀ {vs : List Value} {ns : List Int}, IntsAre vs ns → vs.any (fun y => match y with | .int i _ => i == k | _ => false) = decide (k ∈ ns)
  | _, _, .nil => by simp
  | _, _, .cons i t h => by
    rw [List.any_cons, in_any_ints h]
    by_cases e : i = k
    · subst e; simp
    · have e' : ¬ k = i := fun q => e q.symm
      simp [e, e']
theorem in_tup_ints {prog : Program} {w : World} {A : Around} {E : Value → Shared → Prop} {s : Shared} {h₀ : Heap} {L a : Addr} {news : Led} {vs : List Value} {ns : List Int} {k : Int} {t : Tok} {Q : Value → Shared → Prop}
    (N : News h₀ L s.heap news) (hm : (a, tupO vs) ∈ news) (hI : IntsAre vs ns) (h : Q (.bool (decide (k ∈ ns))) s) : wpAny (model prog w) A (compareOp .In (.int k t) (.ref a)) Q E s := by
  refine SeqAt.in_tupleAt (fun y => match y with | .int i _ => i == k | _ => false) ⟨_, (N _ hm).1, rfl, 0, rfl⟩ (fun y hy => ?_) ?_
  · obtain ⟨i, u, rfl⟩ : ∃ i u, y = .int i u := by
      clear h hm N
      induction hI with
      | nil => simp at hy
      | cons i t _ ih =>
        rcases List.mem_cons.mp (by simpa using hy) with rfl | hy
        · exact ⟨_, _, rfl⟩
        · exact ih (by simpa using hy)
    exact SeqAt.EqAt.int_int i u k t
  · rw [List.any_toArray, in_any_ints hI]
    exact h
section
theorem kwpath14 : True := by
  k_with_none
  k_with "m call builtin:len" => (k_here; (with_reducible show wpAny _ _ (call (Value.builtin "len") [Value.ref _]) _ _ _); k_dflt (refine' len_led ?k1_z ?k2_z ?k3_z ?k4_z ?_; (case k1_z => k_asm); (case k2_z => k_mem); (case k3_z => with_reducible assumption); (case k4_z => omega)))
  k_with "m ite" => (k_closed; with_reducible (first | refine ite_tt ?_ | refine ite_ff ?_ | refine PySem.W.ite_neg (by decide) ?_ | refine PySem.W.ite_pos (by decide) ?_))
  k_with "m subscriptTail" => (k_here; (with_reducible show wpAny _ _ (subscriptTail _ _ (Value.ref _) (Value.int _ _)) _ _ _); k_dflt (first | (refine' sub_list ?N_z ?m_z ?a_z ?b_z ?x_z ?s_z ?_; (case N_z => k_asm); (case m_z => k_mem); (case a_z => decide); (case b_z => decide); (case x_z => rfl); (case s_z => with_unfolding_all rfl)) | (refine' sub_tup ?N_z ?m_z ?a_z ?b_z ?j_z ?x_z ?s_z ?_; (case N_z => k_asm); (case m_z => k_mem); (case a_z => decide); (case b_z => decide); (case j_z => rfl); (case x_z => rfl); (case s_z => with_unfolding_all rfl))))
  k_with "m subscriptTail Name Call ref int" => (k_here; (with_reducible show wpAny _ _ (subscriptTail _ _ (Value.ref _) (Value.int _ _)) _ _ _); k_dflt (first | (refine' sub_list_any ?N_z ?m_z ?a_z ?b_z ?z_z ?s_z ?_; (case N_z => k_asm); (case m_z => k_mem); (case a_z => omega); (case b_z => first | (simp only [List.length_cons, List.length_nil]; omega) | (simp only [List.length_append, List.length_cons, List.length_nil]; omega) | (simp only [List.length_append]; omega)); (case z_z => first | exact Nat.le_of_ble_eq_true rfl | (simp only [List.length_append, List.length_cons, List.length_nil]; omega) | (simp only [List.length_append]; omega)); (case s_z => with_unfolding_all rfl)) | (refine' sub_tup_any ?N_z ?m_z ?a_z ?b_z ?z_z ?s_z ?_; (case N_z => k_asm); (case m_z => k_mem); (case a_z => omega); (case b_z => first | (simp only [List.length_cons, List.length_nil]; omega) | (simp only [List.length_append, List.length_cons, List.length_nil]; omega) | (simp only [List.length_append]; omega)); (case z_z => first | exact Nat.le_of_ble_eq_true rfl | (simp only [List.length_append, List.length_cons, List.length_nil]; omega) | (simp only [List.length_append]; omega)); (case s_z => with_unfolding_all rfl))); intro _ _)
  k_with "m subscriptTail Tuple" => (k_here; (with_reducible show wpAny _ _ (subscriptTail _ _ (Value.ref _) (Value.int _ _)) _ _ _); k_dflt (first | (refine' sub_list_any ?N_z ?m_z ?a_z ?b_z ?z_z ?s_z ?_; (case N_z => k_asm); (case m_z => k_mem); (case a_z => omega); (case b_z => first | (simp only [List.length_cons, List.length_nil]; omega) | (simp only [List.length_append, List.length_cons, List.length_nil]; omega) | (simp only [List.length_append]; omega)); (case z_z => first | exact Nat.le_of_ble_eq_true rfl | (simp only [List.length_append, List.length_cons, List.length_nil]; omega) | (simp only [List.length_append]; omega)); (case s_z => with_unfolding_all rfl)) | (refine' sub_tup_any ?N_z ?m_z ?a_z ?b_z ?z_z ?s_z ?_; (case N_z => k_asm); (case m_z => k_mem); (case a_z => omega); (case b_z => first | (simp only [List.length_cons, List.length_nil]; omega) | (simp only [List.length_append, List.length_cons, List.length_nil]; omega) | (simp only [List.length_append]; omega)); (case z_z => first | exact Nat.le_of_ble_eq_true rfl | (simp only [List.length_append, List.length_cons, List.length_nil]; omega) | (simp only [List.length_append]; omega)); (case s_z => with_unfolding_all rfl))); intro _ _)
  k_with "m subscriptTail List" => (k_here; (with_reducible show wpAny _ _ (subscriptTail _ _ (Value.ref _) (Value.int _ _)) _ _ _); k_dflt (first | (refine' sub_list_any ?N_z ?m_z ?a_z ?b_z ?z_z ?s_z ?_; (case N_z => k_asm); (case m_z => k_mem); (case a_z => omega); (case b_z => first | (simp only [List.length_cons, List.length_nil]; omega) | (simp only [List.length_append, List.length_cons, List.length_nil]; omega) | (simp only [List.length_append]; omega)); (case z_z => first | exact Nat.le_of_ble_eq_true rfl | (simp only [List.length_append, List.length_cons, List.length_nil]; omega) | (simp only [List.length_append]; omega)); (case s_z => with_unfolding_all rfl)) | (refine' sub_tup_any ?N_z ?m_z ?a_z ?b_z ?z_z ?s_z ?_; (case N_z => k_asm); (case m_z => k_mem); (case a_z => omega); (case b_z => first | (simp only [List.length_cons, List.length_nil]; omega) | (simp only [List.length_append, List.length_cons, List.length_nil]; omega) | (simp only [List.length_append]; omega)); (case z_z => first | exact Nat.le_of_ble_eq_true rfl | (simp only [List.length_append, List.length_cons, List.length_nil]; omega) | (simp only [List.length_append]; omega)); (case s_z => with_unfolding_all rfl))); intro _ _)
  k_with "m execs cons" => (k_here; (with_reducible show wpAny _ _ _ _ _ (Shared.mk _ _ _ (_ + 1) _)); refine gen_toks ?_; intro (tk : Nat))
  k_with "m exec For Tuple Name cons nil" => (k_here; (rename Fr _ _ _ _ => lF'); (with_unfolding_all refine' For_turns lF' ?_; k_whole))
  k_with "m exec For Name Name cons nil" => (k_here; (rename Fr _ _ _ _ => lF'); (with_unfolding_all refine' For_turns lF' ?_; k_whole))
  k_with "m exec For Name Tuple cons nil" => (k_here; (rename Fr _ _ _ _ => lF'); (with_unfolding_all refine' For_turns lF' ?_; k_whole))
  k_with "m pyIter ref" => (k_here; (with_reducible show wpAny _ _ (pyIter (Value.ref _)) (fun it s₂ => TurnsAt _ _ _ _ _ _ _ _ _ it s₂) _ _); k_dflt (refine' iter_tupTurns (n := 0) ?h_z ?F_z ?N_z ?m_z ?c_z ?d_z ?_; (case F_z => k_asm); (case N_z => k_asm); (case m_z => k_mem); (case h_z => exact rfl); (case c_z => exact rfl); (case d_z => exact rfl)); intro _ _)
  k_with "m UnrEndW" => (k_dflt (refine' unrW_end ?F_z ?N_z ?U_z ?off_z ⟨⟨?m_z, trivial⟩, ?_⟩; (case F_z => k_asm); (case N_z => k_asm); (case U_z => (repeat (first | exact Pull.here | apply Pull.there | apply Pull.app))); (case off_z => (repeat' (first | assumption | refine List.forall_mem_cons.mpr ⟨?_, ?_⟩ | refine List.forall_mem_append.mpr ⟨?_, ?_⟩ | exact List.forall_mem_nil _ | exact ne_of_abv1 (by assumption) | exact ne_of_abv2 (by assumption) (by k_mem) | exact ne_of_all (by assumption) (by k_mem) | exact ne_of_low1 (by assumption) (by k_mem) | exact ne_of_low (by assumption) (by (repeat' (first | assumption | exact List.forall_mem_nil _ | refine sub_app ?_ ?_ | refine sub_cons ?_ ?_ | k_mem | (intro _ _; k_mem))))))); (case m_z => k_mem)))
  trivial
theorem pathlen_ct {w : World} {p : Addr} {x : Bool} {news : Led} (hp : PathIs news p x) : Ct w 21 [.ref p] 10 100 news (RoPost news fun r => ∃ t, r = .int (if x then 2 else 1) t) := by
  unfold Ct
  k_fill
  intro mean mg mb dp un gd cn cs a ccd cl outer A₀ base h₀ L m s Q E B F X N T hk hd hu hret
  cases hp
  all_goals refine wpAny_call ?_
  all_goals k_dflt ktr_enter
  all_goals k_steps
  all_goals refine ro_end (by assumption) (by k_asm) (by k_asm) (by (repeat' (first | assumption | exact List.forall_mem_nil _ | refine sub_app ?_ ?_ | refine sub_cons ?_ ?_ | k_mem | (intro _ _; k_mem)))) ?_
  all_goals exact Exists.intro _ rfl
theorem neigh_ct {w : World} {p : Addr} {x : Bool} {news : Led} (hp : PathIs news p x) : Ct w 28 [.ref p] 10 100 news (RoPost news fun r => ∃ t, r = .int (if x then 7 else 8) t) := by
  unfold Ct
  k_fill
  intro mean mg mb dp un gd cn cs a ccd cl outer A₀ base h₀ L m s Q E B F X N T hk hd hu hret
  cases hp
  all_goals refine wpAny_call ?_
  all_goals k_dflt ktr_enter
  all_goals k_steps
  all_goals refine ro_end (by assumption) (by k_asm) (by k_asm) (by (repeat' (first | assumption | exact List.forall_mem_nil _ | refine sub_app ?_ ?_ | refine sub_cons ?_ ?_ | k_mem | (intro _ _; k_mem)))) ?_
  all_goals exact Exists.intro _ rfl
theorem kwpath15 : True := by
  k_with_none
  k_with "m call builtin:len" => (k_here; (with_reducible show wpAny _ _ (call (Value.builtin "len") [Value.ref _]) _ _ _); k_dflt (refine' len_led ?k1_z ?k2_z ?k3_z ?k4_z ?_; (case k1_z => k_asm); (case k2_z => k_mem); (case k3_z => with_reducible assumption); (case k4_z => omega)))
  k_with "m ite" => (k_closed; with_reducible (first | refine ite_tt ?_ | refine ite_ff ?_ | refine PySem.W.ite_neg (by decide) ?_ | refine PySem.W.ite_pos (by decide) ?_))
  k_with "m subscriptTail" => (k_here; (with_reducible show wpAny _ _ (subscriptTail _ _ (Value.ref _) (Value.int _ _)) _ _ _); k_dflt (first | (refine' sub_list ?N_z ?m_z ?a_z ?b_z ?x_z ?s_z ?_; (case N_z => k_asm); (case m_z => k_mem); (case a_z => decide); (case b_z => decide); (case x_z => rfl); (case s_z => with_unfolding_all rfl)) | (refine' sub_tup ?N_z ?m_z ?a_z ?b_z ?j_z ?x_z ?s_z ?_; (case N_z => k_asm); (case m_z => k_mem); (case a_z => decide); (case b_z => decide); (case j_z => rfl); (case x_z => rfl); (case s_z => with_unfolding_all rfl))))
  k_with "m subscriptTail Name Call ref int" => (k_here; (with_reducible show wpAny _ _ (subscriptTail _ _ (Value.ref _) (Value.int _ _)) _ _ _); k_dflt (first | (refine' sub_list_any ?N_z ?m_z ?a_z ?b_z ?z_z ?s_z ?_; (case N_z => k_asm); (case m_z => k_mem); (case a_z => omega); (case b_z => first | (simp only [List.length_cons, List.length_nil]; omega) | (simp only [List.length_append, List.length_cons, List.length_nil]; omega) | (simp only [List.length_append]; omega)); (case z_z => first | exact Nat.le_of_ble_eq_true rfl | (simp only [List.length_append, List.length_cons, List.length_nil]; omega) | (simp only [List.length_append]; omega)); (case s_z => with_unfolding_all rfl)) | (refine' sub_tup_any ?N_z ?m_z ?a_z ?b_z ?z_z ?s_z ?_; (case N_z => k_asm); (case m_z => k_mem); (case a_z => omega); (case b_z => first | (simp only [List.length_cons, List.length_nil]; omega) | (simp only [List.length_append, List.length_cons, List.length_nil]; omega) | (simp only [List.length_append]; omega)); (case z_z => first | exact Nat.le_of_ble_eq_true rfl | (simp only [List.length_append, List.length_cons, List.length_nil]; omega) | (simp only [List.length_append]; omega)); (case s_z => with_unfolding_all rfl))); intro _ _)
  k_with "m subscriptTail Tuple" => (k_here; (with_reducible show wpAny _ _ (subscriptTail _ _ (Value.ref _) (Value.int _ _)) _ _ _); k_dflt (first | (refine' sub_list_any ?N_z ?m_z ?a_z ?b_z ?z_z ?s_z ?_; (case N_z => k_asm); (case m_z => k_mem); (case a_z => omega); (case b_z => first | (simp only [List.length_cons, List.length_nil]; omega) | (simp only [List.length_append, List.length_cons, List.length_nil]; omega) | (simp only [List.length_append]; omega)); (case z_z => first | exact Nat.le_of_ble_eq_true rfl | (simp only [List.length_append, List.length_cons, List.length_nil]; omega) | (simp only [List.length_append]; omega)); (case s_z => with_unfolding_all rfl)) | (refine' sub_tup_any ?N_z ?m_z ?a_z ?b_z ?z_z ?s_z ?_; (case N_z => k_asm); (case m_z => k_mem); (case a_z => omega); (case b_z => first | (simp only [List.length_cons, List.length_nil]; omega) | (simp only [List.length_append, List.length_cons, List.length_nil]; omega) | (simp only [List.length_append]; omega)); (case z_z => first | exact Nat.le_of_ble_eq_true rfl | (simp only [List.length_append, List.length_cons, List.length_nil]; omega) | (simp only [List.length_append]; omega)); (case s_z => with_unfolding_all rfl))); intro _ _)
  k_with "m subscriptTail List" => (k_here; (with_reducible show wpAny _ _ (subscriptTail _ _ (Value.ref _) (Value.int _ _)) _ _ _); k_dflt (first | (refine' sub_list_any ?N_z ?m_z ?a_z ?b_z ?z_z ?s_z ?_; (case N_z => k_asm); (case m_z => k_mem); (case a_z => omega); (case b_z => first | (simp only [List.length_cons, List.length_nil]; omega) | (simp only [List.length_append, List.length_cons, List.length_nil]; omega) | (simp only [List.length_append]; omega)); (case z_z => first | exact Nat.le_of_ble_eq_true rfl | (simp only [List.length_append, List.length_cons, List.length_nil]; omega) | (simp only [List.length_append]; omega)); (case s_z => with_unfolding_all rfl)) | (refine' sub_tup_any ?N_z ?m_z ?a_z ?b_z ?z_z ?s_z ?_; (case N_z => k_asm); (case m_z => k_mem); (case a_z => omega); (case b_z => first | (simp only [List.length_cons, List.length_nil]; omega) | (simp only [List.length_append, List.length_cons, List.length_nil]; omega) | (simp only [List.length_append]; omega)); (case z_z => first | exact Nat.le_of_ble_eq_true rfl | (simp only [List.length_append, List.length_cons, List.length_nil]; omega) | (simp only [List.length_append]; omega)); (case s_z => with_unfolding_all rfl))); intro _ _)
  k_with "m execs cons" => (k_here; (with_reducible show wpAny _ _ _ _ _ (Shared.mk _ _ _ (_ + 1) _)); refine gen_toks ?_; intro (tk : Nat))
  k_with "m exec For Tuple Name cons nil" => (k_here; (rename Fr _ _ _ _ => lF'); (with_unfolding_all refine' For_turns lF' ?_; k_whole))
  k_with "m exec For Name Name cons nil" => (k_here; (rename Fr _ _ _ _ => lF'); (with_unfolding_all refine' For_turns lF' ?_; k_whole))
  k_with "m exec For Name Tuple cons nil" => (k_here; (rename Fr _ _ _ _ => lF'); (with_unfolding_all refine' For_turns lF' ?_; k_whole))
  k_with "m pyIter ref" => (k_here; (with_reducible show wpAny _ _ (pyIter (Value.ref _)) (fun it s₂ => TurnsAt _ _ _ _ _ _ _ _ _ it s₂) _ _); k_dflt (refine' iter_tupTurns (n := 0) ?h_z ?F_z ?N_z ?m_z ?c_z ?d_z ?_; (case F_z => k_asm); (case N_z => k_asm); (case m_z => k_mem); (case h_z => exact rfl); (case c_z => exact rfl); (case d_z => exact rfl)); intro _ _)
  k_with "m UnrEndW" => (k_dflt (refine' unrW_end ?F_z ?N_z ?U_z ?off_z ⟨⟨?m_z, trivial⟩, ?_⟩; (case F_z => k_asm); (case N_z => k_asm); (case U_z => (repeat (first | exact Pull.here | apply Pull.there | apply Pull.app))); (case off_z => (repeat' (first | assumption | refine List.forall_mem_cons.mpr ⟨?_, ?_⟩ | refine List.forall_mem_append.mpr ⟨?_, ?_⟩ | exact List.forall_mem_nil _ | exact ne_of_abv1 (by assumption) | exact ne_of_abv2 (by assumption) (by k_mem) | exact ne_of_all (by assumption) (by k_mem) | exact ne_of_low1 (by assumption) (by k_mem) | exact ne_of_low (by assumption) (by (repeat' (first | assumption | exact List.forall_mem_nil _ | refine sub_app ?_ ?_ | refine sub_cons ?_ ?_ | k_mem | (intro _ _; k_mem))))))); (case m_z => k_mem)))
  k_with "m compareOp In int ref" => (k_here; k_dflt (refine in_tup_ints (by k_asm) (by k_mem) (by repeat constructor) ?_))
  trivial
theorem has_ct {w : World} {p : Addr} {x : Bool} {t7 : Tok} {news : Led} (hp : PathIs news p x) : Ct w 35 [.ref p, .int 7 t7] 10 100 news (RoPost news fun r => r = .bool x) := by
  unfold Ct
  k_fill
  intro mean mg mb dp un gd cn cs a ccd cl outer A₀ base h₀ L m s Q E B F X N T hk hd hu hret
  cases hp
  all_goals refine wpAny_call ?_
  all_goals k_dflt ktr_enter
  all_goals k_steps
  all_goals refine ro_end (by assumption) (by k_asm) (by k_asm) (by (repeat' (first | assumption | exact List.forall_mem_nil _ | refine sub_app ?_ ?_ | refine sub_cons ?_ ?_ | k_mem | (intro _ _; k_mem)))) ?_
  all_goals rfl
end

structure Rt where
  org : Int
  two : Bool
  med : Option Int
  lp : Option Int
  tag : Option Int
  nh : Option Int
  com : List Int

inductive OptI : Option Value → Option Int → Prop
  | none : OptI none none
  | some {i t} : OptI (some (.int i t)) (some i)
inductive ComIs (N : Led) : Option Value → List Int → Prop
  | none : ComIs N none []
  | some {a vs ns} (h : (a, tupO vs) ∈ N) (hi : IntsAre vs ns) (hne : ns ≠ []) : ComIs N (some (.ref a)) ns
theorem kwatt16 : True := by
  k_with_none
  k_with "m call builtin:len" => (k_here; (with_reducible show wpAny _ _ (call (Value.builtin "len") [Value.ref _]) _ _ _); k_dflt (refine' len_led ?k1_z ?k2_z ?k3_z ?k4_z ?_; (case k1_z => k_asm); (case k2_z => k_mem); (case k3_z => with_reducible assumption); (case k4_z => omega)))
  k_with "m ite" => (k_closed; with_reducible (first | refine ite_tt ?_ | refine ite_ff ?_ | refine PySem.W.ite_neg (by decide) ?_ | refine PySem.W.ite_pos (by decide) ?_))
  k_with "m subscriptTail" => (k_here; (with_reducible show wpAny _ _ (subscriptTail _ _ (Value.ref _) (Value.int _ _)) _ _ _); k_dflt (first | (refine' sub_list ?N_z ?m_z ?a_z ?b_z ?x_z ?s_z ?_; (case N_z => k_asm); (case m_z => k_mem); (case a_z => decide); (case b_z => decide); (case x_z => rfl); (case s_z => with_unfolding_all rfl)) | (refine' sub_tup ?N_z ?m_z ?a_z ?b_z ?j_z ?x_z ?s_z ?_; (case N_z => k_asm); (case m_z => k_mem); (case a_z => decide); (case b_z => decide); (case j_z => rfl); (case x_z => rfl); (case s_z => with_unfolding_all rfl))))
  k_with "m subscriptTail Name Call ref int" => (k_here; (with_reducible show wpAny _ _ (subscriptTail _ _ (Value.ref _) (Value.int _ _)) _ _ _); k_dflt (first | (refine' sub_list_any ?N_z ?m_z ?a_z ?b_z ?z_z ?s_z ?_; (case N_z => k_asm); (case m_z => k_mem); (case a_z => omega); (case b_z => first | (simp only [List.length_cons, List.length_nil]; omega) | (simp only [List.length_append, List.length_cons, List.length_nil]; omega) | (simp only [List.length_append]; omega)); (case z_z => first | exact Nat.le_of_ble_eq_true rfl | (simp only [List.length_append, List.length_cons, List.length_nil]; omega) | (simp only [List.length_append]; omega)); (case s_z => with_unfolding_all rfl)) | (refine' sub_tup_any ?N_z ?m_z ?a_z ?b_z ?z_z ?s_z ?_; (case N_z => k_asm); (case m_z => k_mem); (case a_z => omega); (case b_z => first | (simp only [List.length_cons, List.length_nil]; omega) | (simp only [List.length_append, List.length_cons, List.length_nil]; omega) | (simp only [List.length_append]; omega)); (case z_z => first | exact Nat.le_of_ble_eq_true rfl | (simp only [List.length_append, List.length_cons, List.length_nil]; omega) | (simp only [List.length_append]; omega)); (case s_z => with_unfolding_all rfl))); intro _ _)
  k_with "m subscriptTail Tuple" => (k_here; (with_reducible show wpAny _ _ (subscriptTail _ _ (Value.ref _) (Value.int _ _)) _ _ _); k_dflt (first | (refine' sub_list_any ?N_z ?m_z ?a_z ?b_z ?z_z ?s_z ?_; (case N_z => k_asm); (case m_z => k_mem); (case a_z => omega); (case b_z => first | (simp only [List.length_cons, List.length_nil]; omega) | (simp only [List.length_append, List.length_cons, List.length_nil]; omega) | (simp only [List.length_append]; omega)); (case z_z => first | exact Nat.le_of_ble_eq_true rfl | (simp only [List.length_append, List.length_cons, List.length_nil]; omega) | (simp only [List.length_append]; omega)); (case s_z => with_unfolding_all rfl)) | (refine' sub_tup_any ?N_z ?m_z ?a_z ?b_z ?z_z ?s_z ?_; (case N_z => k_asm); (case m_z => k_mem); (case a_z => omega); (case b_z => first | (simp only [List.length_cons, List.length_nil]; omega) | (simp only [List.length_append, List.length_cons, List.length_nil]; omega) | (simp only [List.length_append]; omega)); (case z_z => first | exact Nat.le_of_ble_eq_true rfl | (simp only [List.length_append, List.length_cons, List.length_nil]; omega) | (simp only [List.length_append]; omega)); (case s_z => with_unfolding_all rfl))); intro _ _)
  k_with "m subscriptTail List" => (k_here; (with_reducible show wpAny _ _ (subscriptTail _ _ (Value.ref _) (Value.int _ _)) _ _ _); k_dflt (first | (refine' sub_list_any ?N_z ?m_z ?a_z ?b_z ?z_z ?s_z ?_; (case N_z => k_asm); (case m_z => k_mem); (case a_z => omega); (case b_z => first | (simp only [List.length_cons, List.length_nil]; omega) | (simp only [List.length_append, List.length_cons, List.length_nil]; omega) | (simp only [List.length_append]; omega)); (case z_z => first | exact Nat.le_of_ble_eq_true rfl | (simp only [List.length_append, List.length_cons, List.length_nil]; omega) | (simp only [List.length_append]; omega)); (case s_z => with_unfolding_all rfl)) | (refine' sub_tup_any ?N_z ?m_z ?a_z ?b_z ?z_z ?s_z ?_; (case N_z => k_asm); (case m_z => k_mem); (case a_z => omega); (case b_z => first | (simp only [List.length_cons, List.length_nil]; omega) | (simp only [List.length_append, List.length_cons, List.length_nil]; omega) | (simp only [List.length_append]; omega)); (case z_z => first | exact Nat.le_of_ble_eq_true rfl | (simp only [List.length_append, List.length_cons, List.length_nil]; omega) | (simp only [List.length_append]; omega)); (case s_z => with_unfolding_all rfl))); intro _ _)
  k_with "m execs cons" => (k_here; (with_reducible show wpAny _ _ _ _ _ (Shared.mk _ _ _ (_ + 1) _)); refine gen_toks ?_; intro (tk : Nat))
  trivial
theorem ComIs.mono {N N' : Led} {v : Option Value} {ns : List Int} (h : ComIs N v ns) (s : ∀ p ∈ N, p ∈ N') : ComIs N' v ns := by
  cases h with
  | none => exact .none
  | some h hi hne => exact .some (s _ h) hi hne
inductive PathV (N : Led) : Option Value → Bool → Prop
  | mk {p x} (h : PathIs N p x) : PathV N (some (.ref p)) x
theorem PathV.mono {N N' : Led} {v : Option Value} {x : Bool} (h : PathV N v x) (s : ∀ p ∈ N, p ∈ N') : PathV N' v x := by
  cases h with
  | mk h => exact .mk (h.mono s)

def names7 : List Str := [Str.ofString "origin", Str.ofString "as_path", Str.ofString "med", Str.ofString "local_pref", Str.ofString "tag", Str.ofString "next_hop", Str.ofString "communities"]

structure AttK (N : Led) (kvs : List (Str × Value)) (r : Rt) : Prop where
  keys : ∀ p ∈ kvs, p.1 ∈ names7
  org : OptI (valueAt kvs (Str.ofString "origin")) (some r.org)
  path : PathV N (valueAt kvs (Str.ofString "as_path")) r.two
  med : OptI (valueAt kvs (Str.ofString "med")) r.med
  lp : OptI (valueAt kvs (Str.ofString "local_pref")) r.lp
  tag : OptI (valueAt kvs (Str.ofString "tag")) r.tag
  nh : OptI (valueAt kvs (Str.ofString "next_hop")) r.nh
  com : ComIs N (valueAt kvs (Str.ofString "communities")) r.com
theorem AttK.mono {N N' : Led} {kvs : List (Str × Value)} {r : Rt} (h : AttK N kvs r) (s : ∀ p ∈ N, p ∈ N') : AttK N' kvs r :=
  ⟨h.keys, h.org, h.path.mono s, h.med, h.lp, h.tag, h.nh, h.com.mono s⟩

inductive AttIs (w : World) (N : Led) : Addr → Rt → Prop
  | mk {d o kvs r} (hm : (d, o) ∈ N) (hd : o.IsDictOf (PySem.strKind Challenge.rw_sj0179_01.row.prog w) kvs) (lo : (d == sysModules) = false) (hk : AttK N kvs r) : AttIs w N d r
theorem AttIs.mono {w : World} {N N' : Led} {d : Addr} {r : Rt} (h : AttIs w N d r) (s : ∀ p ∈ N, p ∈ N') : AttIs w N' d r := by
  cases h with
  | mk hm hd lo hk => exact .mk (s _ hm) hd lo (hk.mono s)

inductive FactsIs (w : World) (N : Led) : Addr → Int → Prop
  | mk {d o kvs i t t'} (hm : (d, o) ∈ N) (hd : o.IsDictOf (PySem.strKind Challenge.rw_sj0179_01.row.prog w) kvs) (lo : (d == sysModules) = false)
      (h1 : valueAt kvs (Str.ofString "own_address") = some (.int 9 t)) (h2 : valueAt kvs (Str.ofString "peer_as") = some (.int i t')) : FactsIs w N d i
theorem FactsIs.mono {w : World} {N N' : Led} {d : Addr} {i : Int} (h : FactsIs w N d i) (s : ∀ p ∈ N, p ∈ N') : FactsIs w N' d i := by
  cases h with
  | mk hm hd lo h1 h2 => exact .mk (s _ hm) hd lo h1 h2

inductive PreIs (N : Led) : Addr → Nat → Prop
  | p0 {a i t t'} (h : (a, tupO [.int i t, .int 8 t']) ∈ N) (hi : i = 167772160) : PreIs N a 0
  | p1 {a i t t'} (h : (a, tupO [.int i t, .int 16 t']) ∈ N) (hi : i = 167837696) : PreIs N a 1
  | p2 {a i t t'} (h : (a, tupO [.int i t, .int 24 t']) ∈ N) (hi : i = 167772160) : PreIs N a 2
theorem PreIs.mono {N N' : Led} {a : Addr} {i : Nat} (h : PreIs N a i) (s : ∀ p ∈ N, p ∈ N') : PreIs N' a i := by
  cases h with
  | p0 h hi => exact .p0 (s _ h) hi
  | p1 h hi => exact .p1 (s _ h) hi
  | p2 h hi => exact .p2 (s _ h) hi

structure Cx where
  two : Bool
  org : Int
  peer : Int
  pre : Nat
def Ask.ev (e : Cx) : Ask → Bool
  | .leaf 0 => e.two
  | .leaf 1 => !e.two
  | .leaf 2 => e.two
  | .leaf 3 => e.org == 0
  | .leaf 4 => e.peer != 3
  | .leaf 5 => decide (e.pre ≠ 0)
  | .leaf 6 => decide (e.pre ≠ 2)
  | .leaf _ => true
  | .not a => !a.ev e
  | .and a b => a.ev e && b.ev e
  | .or a b => a.ev e || b.ev e

def CondCt (w : World) (e : Cx) (q : Ask) : Prop := ∀ {v : Value} {pa at' fa : Addr} {r : Rt} {news : Led}, AskIs news v q → PreIs news pa e.pre → AttIs w news at' r → FactsIs w news fa e.peer → r.org = e.org → r.two = e.two →
  Ct w 93 [v, .ref pa, .ref at', .ref fa] (30 + 5 * q.dep) (300 + 30 * q.dep) news (RoPost news fun r => r = .bool (q.ev e))

section

theorem kwcond17 : True := by
  k_with_none
  k_with "m call builtin:len" => (k_here; (with_reducible show wpAny _ _ (call (Value.builtin "len") [Value.ref _]) _ _ _); k_dflt (refine' len_led ?k1_z ?k2_z ?k3_z ?k4_z ?_; (case k1_z => k_asm); (case k2_z => k_mem); (case k3_z => with_reducible assumption); (case k4_z => omega)))
  k_with "m ite" => (k_closed; with_reducible (first | refine ite_tt ?_ | refine ite_ff ?_ | refine PySem.W.ite_neg (by decide) ?_ | refine PySem.W.ite_pos (by decide) ?_))
  k_with "m subscriptTail" => (k_here; (with_reducible show wpAny _ _ (subscriptTail _ _ (Value.ref _) (Value.int _ _)) _ _ _); k_dflt (first | (refine' sub_list ?N_z ?m_z ?a_z ?b_z ?x_z ?s_z ?_; (case N_z => k_asm); (case m_z => k_mem); (case a_z => decide); (case b_z => decide); (case x_z => rfl); (case s_z => with_unfolding_all rfl)) | (refine' sub_tup ?N_z ?m_z ?a_z ?b_z ?j_z ?x_z ?s_z ?_; (case N_z => k_asm); (case m_z => k_mem); (case a_z => decide); (case b_z => decide); (case j_z => rfl); (case x_z => rfl); (case s_z => with_unfolding_all rfl))))
  k_with "m subscriptTail Name Call ref int" => (k_here; (with_reducible show wpAny _ _ (subscriptTail _ _ (Value.ref _) (Value.int _ _)) _ _ _); k_dflt (first | (refine' sub_list_any ?N_z ?m_z ?a_z ?b_z ?z_z ?s_z ?_; (case N_z => k_asm); (case m_z => k_mem); (case a_z => omega); (case b_z => first | (simp only [List.length_cons, List.length_nil]; omega) | (simp only [List.length_append, List.length_cons, List.length_nil]; omega) | (simp only [List.length_append]; omega)); (case z_z => first | exact Nat.le_of_ble_eq_true rfl | (simp only [List.length_append, List.length_cons, List.length_nil]; omega) | (simp only [List.length_append]; omega)); (case s_z => with_unfolding_all rfl)) | (refine' sub_tup_any ?N_z ?m_z ?a_z ?b_z ?z_z ?s_z ?_; (case N_z => k_asm); (case m_z => k_mem); (case a_z => omega); (case b_z => first | (simp only [List.length_cons, List.length_nil]; omega) | (simp only [List.length_append, List.length_cons, List.length_nil]; omega) | (simp only [List.length_append]; omega)); (case z_z => first | exact Nat.le_of_ble_eq_true rfl | (simp only [List.length_append, List.length_cons, List.length_nil]; omega) | (simp only [List.length_append]; omega)); (case s_z => with_unfolding_all rfl))); intro _ _)
  k_with "m subscriptTail Tuple" => (k_here; (with_reducible show wpAny _ _ (subscriptTail _ _ (Value.ref _) (Value.int _ _)) _ _ _); k_dflt (first | (refine' sub_list_any ?N_z ?m_z ?a_z ?b_z ?z_z ?s_z ?_; (case N_z => k_asm); (case m_z => k_mem); (case a_z => omega); (case b_z => first | (simp only [List.length_cons, List.length_nil]; omega) | (simp only [List.length_append, List.length_cons, List.length_nil]; omega) | (simp only [List.length_append]; omega)); (case z_z => first | exact Nat.le_of_ble_eq_true rfl | (simp only [List.length_append, List.length_cons, List.length_nil]; omega) | (simp only [List.length_append]; omega)); (case s_z => with_unfolding_all rfl)) | (refine' sub_tup_any ?N_z ?m_z ?a_z ?b_z ?z_z ?s_z ?_; (case N_z => k_asm); (case m_z => k_mem); (case a_z => omega); (case b_z => first | (simp only [List.length_cons, List.length_nil]; omega) | (simp only [List.length_append, List.length_cons, List.length_nil]; omega) | (simp only [List.length_append]; omega)); (case z_z => first | exact Nat.le_of_ble_eq_true rfl | (simp only [List.length_append, List.length_cons, List.length_nil]; omega) | (simp only [List.length_append]; omega)); (case s_z => with_unfolding_all rfl))); intro _ _)
  k_with "m subscriptTail List" => (k_here; (with_reducible show wpAny _ _ (subscriptTail _ _ (Value.ref _) (Value.int _ _)) _ _ _); k_dflt (first | (refine' sub_list_any ?N_z ?m_z ?a_z ?b_z ?z_z ?s_z ?_; (case N_z => k_asm); (case m_z => k_mem); (case a_z => omega); (case b_z => first | (simp only [List.length_cons, List.length_nil]; omega) | (simp only [List.length_append, List.length_cons, List.length_nil]; omega) | (simp only [List.length_append]; omega)); (case z_z => first | exact Nat.le_of_ble_eq_true rfl | (simp only [List.length_append, List.length_cons, List.length_nil]; omega) | (simp only [List.length_append]; omega)); (case s_z => with_unfolding_all rfl)) | (refine' sub_tup_any ?N_z ?m_z ?a_z ?b_z ?z_z ?s_z ?_; (case N_z => k_asm); (case m_z => k_mem); (case a_z => omega); (case b_z => first | (simp only [List.length_cons, List.length_nil]; omega) | (simp only [List.length_append, List.length_cons, List.length_nil]; omega) | (simp only [List.length_append]; omega)); (case z_z => first | exact Nat.le_of_ble_eq_true rfl | (simp only [List.length_append, List.length_cons, List.length_nil]; omega) | (simp only [List.length_append]; omega)); (case s_z => with_unfolding_all rfl))); intro _ _)
  k_with "m execs cons" => (k_here; (with_reducible show wpAny _ _ _ _ _ (Shared.mk _ _ _ (_ + 1) _)); refine gen_toks ?_; intro (tk : Nat))
  k_with "m getMethod ref" => (k_here; (with_reducible show wpAny _ _ (getMethod (Value.ref _) (Str.ofString "get") _) _ _ _); k_dflt (refine' kdg_method (knd := PySem.strKind _ _) ?N_z ?hp_z ?hd_z ?_; (case N_z => k_asm); (case hp_z => k_mem); (case hd_z => assumption)))
  k_with "m call builtin:dict.get" => (k_here; k_dflt (refine' kdg_get2 (knd := PySem.strKind _ _) ?N_z ?hp_z ?hd_z ?lo_z (strKind_is _ _ _ _) _ ?hl_z ?_; (case N_z => k_asm); (case hp_z => k_mem); (case hd_z => assumption); (case lo_z => assumption); (case hl_z => assumption)); (try dsimp only [Option.getD]))
  k_with "m call ref" => (k_here; (with_reducible show wpAny _ _ (call (Value.ref _) _) _ _ _); refine wpAny_call ?_; k_dflt (refine' PySem.W.code_def ?k1_z ?k2_z ?k3_z ?k4_z ?k5_z ?kA_z ?kF_z ?kK_z ?k6_z ?k7_z ?k8_z ?k9_z ?kB_z ?_ ?c2_z ?c3_z ?c4_z ?c5_z; (case kA_z => exact rfl); (case kF_z => exact rfl); (case kK_z => first | exact rfl | assumption); (case k1_z => k_asm); (case k2_z => k_asm); (case k3_z => k_asm); (case k4_z => k_asm); (case k5_z => k_asm); (case k6_z => k_is); (case k7_z => k_is); (case k8_z => (first | omega | (simp only [depth_caller, depth_deeper]; decide) | ((have hcL9 := cLine_is); (simp only [units_caller, units_deeper, Around.mark_units]); omega) | ((try simp only [depth_deeper, units_deeper, depth_in1, units_in1]); omega) | fail "room")); (case k9_z => exact BindsTo.of_eq rfl); (case c5_z => decide); (case kB_z => exact locs rfl); (case c2_z => exact rfl); (case c3_z => exact rfl); (case c4_z => exact rfl); k_whole; intro _ _ _ _ _ _ _ _ _; (try dsimp only); (try k_fold)))
  k_with "m call ref" => (k_here; (with_reducible show wpAny _ _ (call (Value.ref 21) _) _ _ _); first | (k_dflt (refine' ct_use (pathlen_ct ?hp_z) ?B_z ?F_z ?X_z ?N_z ?T_z ?hk_z ?hd_z ?hu_z ?_; (case N_z => k_asm); (case B_z => k_asm); (case F_z => k_asm); (case X_z => k_asm); (case T_z => k_asm); (case hk_z => first | exact rfl | assumption); (case hd_z => (first | omega | (simp only [depth_caller, depth_deeper]; decide) | ((have hcL9 := cLine_is); (simp only [units_caller, units_deeper, Around.mark_units]); omega) | ((try simp only [depth_deeper, units_deeper, depth_in1, units_in1]); omega) | fail "room")); (case hu_z => (first | omega | (simp only [depth_caller, depth_deeper]; decide) | ((have hcL9 := cLine_is); (simp only [units_caller, units_deeper, Around.mark_units]); omega) | ((try simp only [depth_deeper, units_deeper, depth_in1, units_in1]); omega) | fail "room")); (case hp_z => exact PathIs.mono (by assumption) (by (repeat' (first | assumption | exact List.forall_mem_nil _ | refine sub_app ?_ ?_ | refine sub_cons ?_ ?_ | k_mem | (intro _ _; k_mem))))); intro _ _ _ _ _ _ P9; obtain ⟨en9, _, e9⟩ := P9; subst en9; subst e9; (try dsimp only))) | refine stop_of ?_)
  k_with "m call ref" => (k_here; (with_reducible show wpAny _ _ (call (Value.ref 28) _) _ _ _); first | (k_dflt (refine' ct_use (neigh_ct ?hp_z) ?B_z ?F_z ?X_z ?N_z ?T_z ?hk_z ?hd_z ?hu_z ?_; (case N_z => k_asm); (case B_z => k_asm); (case F_z => k_asm); (case X_z => k_asm); (case T_z => k_asm); (case hk_z => first | exact rfl | assumption); (case hd_z => (first | omega | (simp only [depth_caller, depth_deeper]; decide) | ((have hcL9 := cLine_is); (simp only [units_caller, units_deeper, Around.mark_units]); omega) | ((try simp only [depth_deeper, units_deeper, depth_in1, units_in1]); omega) | fail "room")); (case hu_z => (first | omega | (simp only [depth_caller, depth_deeper]; decide) | ((have hcL9 := cLine_is); (simp only [units_caller, units_deeper, Around.mark_units]); omega) | ((try simp only [depth_deeper, units_deeper, depth_in1, units_in1]); omega) | fail "room")); (case hp_z => exact PathIs.mono (by assumption) (by (repeat' (first | assumption | exact List.forall_mem_nil _ | refine sub_app ?_ ?_ | refine sub_cons ?_ ?_ | k_mem | (intro _ _; k_mem))))); intro _ _ _ _ _ _ P9; obtain ⟨en9, _, e9⟩ := P9; subst en9; subst e9; (try dsimp only))) | refine stop_of ?_)
  k_with "m call ref" => (k_here; (with_reducible show wpAny _ _ (call (Value.ref 35) _) _ _ _); first | (k_dflt (refine' ct_use (has_ct ?hp_z) ?B_z ?F_z ?X_z ?N_z ?T_z ?hk_z ?hd_z ?hu_z ?_; (case N_z => k_asm); (case B_z => k_asm); (case F_z => k_asm); (case X_z => k_asm); (case T_z => k_asm); (case hk_z => first | exact rfl | assumption); (case hd_z => (first | omega | (simp only [depth_caller, depth_deeper]; decide) | ((have hcL9 := cLine_is); (simp only [units_caller, units_deeper, Around.mark_units]); omega) | ((try simp only [depth_deeper, units_deeper, depth_in1, units_in1]); omega) | fail "room")); (case hu_z => (first | omega | (simp only [depth_caller, depth_deeper]; decide) | ((have hcL9 := cLine_is); (simp only [units_caller, units_deeper, Around.mark_units]); omega) | ((try simp only [depth_deeper, units_deeper, depth_in1, units_in1]); omega) | fail "room")); (case hp_z => exact PathIs.mono (by assumption) (by (repeat' (first | assumption | exact List.forall_mem_nil _ | refine sub_app ?_ ?_ | refine sub_cons ?_ ?_ | k_mem | (intro _ _; k_mem))))); intro _ _ _ _ _ _ P9; obtain ⟨en9, e9⟩ := P9; subst en9; subst e9; (try dsimp only))) | refine stop_of ?_)
  trivial
theorem leaf_ct {w : World} {e : Cx} {i : Nat} : CondCt w e (.leaf i) := by
  unfold CondCt
  intro v pa at' fa r news hq hp ha hf ho ht
  unfold Ct
  k_fill
  intro mean mg mb dp un gd cn cs a ccd cl outer A₀ base h₀ L m s Q E B F X N T hk hd hu hret
  obtain ⟨hm, hd', lo, hk'⟩ := ha
  obtain ⟨hm2, hd2, lo2, hf1, hf2⟩ := hf
  have hpath := hk'.path
  have horg := hk'.org
  rw [ht] at hpath
  rw [ho] at horg
  generalize hvp : valueAt _ (Str.ofString "as_path") = vp at hpath
  generalize hvo : valueAt _ (Str.ofString "origin") = vo at horg
  cases hpath with | mk hpath =>
  cases horg
  obtain ⟨two, org, peer, pre⟩ := e
  dsimp only at *
  cases hq
  case' «prefix» => cases hp
  case' short => cases hp
  case' many => cases two
  case' first => cases two
  all_goals (try subst_vars)
  all_goals refine wpAny_call ?_
  all_goals k_dflt ktr_enter
  all_goals k_steps
  all_goals refine ro_end (by assumption) (by k_asm) (by k_asm) (by (repeat' (first | assumption | exact List.forall_mem_nil _ | refine sub_app ?_ ?_ | refine sub_cons ?_ ?_ | k_mem | (intro _ _; k_mem)))) ?_
  all_goals first
    | rfl
    | (simp [Ask.ev]; done)
end

section

theorem kwcond218 : True := by
  k_with_none
  k_with "m call builtin:len" => (k_here; (with_reducible show wpAny _ _ (call (Value.builtin "len") [Value.ref _]) _ _ _); k_dflt (refine' len_led ?k1_z ?k2_z ?k3_z ?k4_z ?_; (case k1_z => k_asm); (case k2_z => k_mem); (case k3_z => with_reducible assumption); (case k4_z => omega)))
  k_with "m ite" => (k_closed; with_reducible (first | refine ite_tt ?_ | refine ite_ff ?_ | refine PySem.W.ite_neg (by decide) ?_ | refine PySem.W.ite_pos (by decide) ?_))
  k_with "m subscriptTail" => (k_here; (with_reducible show wpAny _ _ (subscriptTail _ _ (Value.ref _) (Value.int _ _)) _ _ _); k_dflt (first | (refine' sub_list ?N_z ?m_z ?a_z ?b_z ?x_z ?s_z ?_; (case N_z => k_asm); (case m_z => k_mem); (case a_z => decide); (case b_z => decide); (case x_z => rfl); (case s_z => with_unfolding_all rfl)) | (refine' sub_tup ?N_z ?m_z ?a_z ?b_z ?j_z ?x_z ?s_z ?_; (case N_z => k_asm); (case m_z => k_mem); (case a_z => decide); (case b_z => decide); (case j_z => rfl); (case x_z => rfl); (case s_z => with_unfolding_all rfl))))
  k_with "m subscriptTail Name Call ref int" => (k_here; (with_reducible show wpAny _ _ (subscriptTail _ _ (Value.ref _) (Value.int _ _)) _ _ _); k_dflt (first | (refine' sub_list_any ?N_z ?m_z ?a_z ?b_z ?z_z ?s_z ?_; (case N_z => k_asm); (case m_z => k_mem); (case a_z => omega); (case b_z => first | (simp only [List.length_cons, List.length_nil]; omega) | (simp only [List.length_append, List.length_cons, List.length_nil]; omega) | (simp only [List.length_append]; omega)); (case z_z => first | exact Nat.le_of_ble_eq_true rfl | (simp only [List.length_append, List.length_cons, List.length_nil]; omega) | (simp only [List.length_append]; omega)); (case s_z => with_unfolding_all rfl)) | (refine' sub_tup_any ?N_z ?m_z ?a_z ?b_z ?z_z ?s_z ?_; (case N_z => k_asm); (case m_z => k_mem); (case a_z => omega); (case b_z => first | (simp only [List.length_cons, List.length_nil]; omega) | (simp only [List.length_append, List.length_cons, List.length_nil]; omega) | (simp only [List.length_append]; omega)); (case z_z => first | exact Nat.le_of_ble_eq_true rfl | (simp only [List.length_append, List.length_cons, List.length_nil]; omega) | (simp only [List.length_append]; omega)); (case s_z => with_unfolding_all rfl))); intro _ _)
  k_with "m subscriptTail Tuple" => (k_here; (with_reducible show wpAny _ _ (subscriptTail _ _ (Value.ref _) (Value.int _ _)) _ _ _); k_dflt (first | (refine' sub_list_any ?N_z ?m_z ?a_z ?b_z ?z_z ?s_z ?_; (case N_z => k_asm); (case m_z => k_mem); (case a_z => omega); (case b_z => first | (simp only [List.length_cons, List.length_nil]; omega) | (simp only [List.length_append, List.length_cons, List.length_nil]; omega) | (simp only [List.length_append]; omega)); (case z_z => first | exact Nat.le_of_ble_eq_true rfl | (simp only [List.length_append, List.length_cons, List.length_nil]; omega) | (simp only [List.length_append]; omega)); (case s_z => with_unfolding_all rfl)) | (refine' sub_tup_any ?N_z ?m_z ?a_z ?b_z ?z_z ?s_z ?_; (case N_z => k_asm); (case m_z => k_mem); (case a_z => omega); (case b_z => first | (simp only [List.length_cons, List.length_nil]; omega) | (simp only [List.length_append, List.length_cons, List.length_nil]; omega) | (simp only [List.length_append]; omega)); (case z_z => first | exact Nat.le_of_ble_eq_true rfl | (simp only [List.length_append, List.length_cons, List.length_nil]; omega) | (simp only [List.length_append]; omega)); (case s_z => with_unfolding_all rfl))); intro _ _)
  k_with "m subscriptTail List" => (k_here; (with_reducible show wpAny _ _ (subscriptTail _ _ (Value.ref _) (Value.int _ _)) _ _ _); k_dflt (first | (refine' sub_list_any ?N_z ?m_z ?a_z ?b_z ?z_z ?s_z ?_; (case N_z => k_asm); (case m_z => k_mem); (case a_z => omega); (case b_z => first | (simp only [List.length_cons, List.length_nil]; omega) | (simp only [List.length_append, List.length_cons, List.length_nil]; omega) | (simp only [List.length_append]; omega)); (case z_z => first | exact Nat.le_of_ble_eq_true rfl | (simp only [List.length_append, List.length_cons, List.length_nil]; omega) | (simp only [List.length_append]; omega)); (case s_z => with_unfolding_all rfl)) | (refine' sub_tup_any ?N_z ?m_z ?a_z ?b_z ?z_z ?s_z ?_; (case N_z => k_asm); (case m_z => k_mem); (case a_z => omega); (case b_z => first | (simp only [List.length_cons, List.length_nil]; omega) | (simp only [List.length_append, List.length_cons, List.length_nil]; omega) | (simp only [List.length_append]; omega)); (case z_z => first | exact Nat.le_of_ble_eq_true rfl | (simp only [List.length_append, List.length_cons, List.length_nil]; omega) | (simp only [List.length_append]; omega)); (case s_z => with_unfolding_all rfl))); intro _ _)
  k_with "m execs cons" => (k_here; (with_reducible show wpAny _ _ _ _ _ (Shared.mk _ _ _ (_ + 1) _)); refine gen_toks ?_; intro (tk : Nat))
  k_with "m call ref" => (k_here; (with_reducible show wpAny _ _ (call (Value.ref 93) _) _ _ _); first | (k_dflt (refine' ct_use ((by assumption : ∀ q', q'.dep < _ → CondCt _ _ q') _ ?hlt_z ?hq_z ?hp_z ?ha_z ?hf_z (by assumption) (by assumption)) ?B_z ?F_z ?X_z ?N_z ?T_z ?hk_z ?hd_z ?hu_z ?_; (case N_z => k_asm); (case B_z => k_asm); (case F_z => k_asm); (case X_z => k_asm); (case T_z => k_asm); (case hk_z => first | exact rfl | assumption); (case hq_z => assumption); (case hlt_z => omega); (case hp_z => assumption); (case ha_z => assumption); (case hf_z => assumption); (case hd_z => (first | omega | (simp only [depth_caller, depth_deeper]; decide) | ((have hcL9 := cLine_is); (simp only [units_caller, units_deeper, Around.mark_units]); omega) | ((try simp only [depth_deeper, units_deeper, depth_in1, units_in1]); omega) | fail "room")); (case hu_z => (first | omega | (simp only [depth_caller, depth_deeper]; decide) | ((have hcL9 := cLine_is); (simp only [units_caller, units_deeper, Around.mark_units]); omega) | ((try simp only [depth_deeper, units_deeper, depth_in1, units_in1]); omega) | fail "room")); intro _ _ _ _ _ _ P9; obtain ⟨en9, e9⟩ := P9; subst en9; subst e9; (try dsimp only))) | refine stop_of ?_)
  trivial
theorem cnot_ct {w : World} {e : Cx} {q : Ask} (ih : ∀ q', q'.dep < (Ask.not q).dep → CondCt w e q') : CondCt w e (.not q) := by
  unfold CondCt
  intro v pa at' fa r news hq hp ha hf ho ht
  unfold Ct
  k_fill
  intro mean mg mb dp un gd cn cs a ccd cl outer A₀ base h₀ L m s Q E B F X N T hk hd hu hret
  have hdep : (Ask.not q).dep = q.dep + 1 := rfl
  cases hq
  refine wpAny_call ?_
  k_dflt ktr_enter
  k_steps
  all_goals refine ro_end (by assumption) (by k_asm) (by k_asm) (by (repeat' (first | assumption | exact List.forall_mem_nil _ | refine sub_app ?_ ?_ | refine sub_cons ?_ ?_ | k_mem | (intro _ _; k_mem)))) ?_
  all_goals simp [Ask.ev, *]
theorem cand_ct {w : World} {e : Cx} {x y : Ask} (ih : ∀ q', q'.dep < (Ask.and x y).dep → CondCt w e q') : CondCt w e (.and x y) := by
  unfold CondCt
  intro v pa at' fa r news hq hp ha hf ho ht
  unfold Ct
  k_fill
  intro mean mg mb dp un gd cn cs a ccd cl outer A₀ base h₀ L m s Q E B F X N T hk hd hu hret
  have hdep : (Ask.and x y).dep = max x.dep y.dep + 1 := rfl
  cases hq
  refine wpAny_call ?_
  k_dflt ktr_enter
  k_steps
  all_goals refine ro_end (by assumption) (by k_asm) (by k_asm) (by (repeat' (first | assumption | exact List.forall_mem_nil _ | refine sub_app ?_ ?_ | refine sub_cons ?_ ?_ | k_mem | (intro _ _; k_mem)))) ?_
  all_goals simp [Ask.ev, *]
theorem cor_ct {w : World} {e : Cx} {x y : Ask} (ih : ∀ q', q'.dep < (Ask.or x y).dep → CondCt w e q') : CondCt w e (.or x y) := by
  unfold CondCt
  intro v pa at' fa r news hq hp ha hf ho ht
  unfold Ct
  k_fill
  intro mean mg mb dp un gd cn cs a ccd cl outer A₀ base h₀ L m s Q E B F X N T hk hd hu hret
  have hdep : (Ask.or x y).dep = max x.dep y.dep + 1 := rfl
  cases hq
  refine wpAny_call ?_
  k_dflt ktr_enter
  k_steps
  all_goals refine ro_end (by assumption) (by k_asm) (by k_asm) (by (repeat' (first | assumption | exact List.forall_mem_nil _ | refine sub_app ?_ ?_ | refine sub_cons ?_ ?_ | k_mem | (intro _ _; k_mem)))) ?_
  all_goals simp [Ask.ev, *]
end
theorem kwcond219 : True := by
  k_with_none
  k_with "m call builtin:len" => (k_here; (with_reducible show wpAny _ _ (call (Value.builtin "len") [Value.ref _]) _ _ _); k_dflt (refine' len_led ?k1_z ?k2_z ?k3_z ?k4_z ?_; (case k1_z => k_asm); (case k2_z => k_mem); (case k3_z => with_reducible assumption); (case k4_z => omega)))
  k_with "m ite" => (k_closed; with_reducible (first | refine ite_tt ?_ | refine ite_ff ?_ | refine PySem.W.ite_neg (by decide) ?_ | refine PySem.W.ite_pos (by decide) ?_))
  k_with "m subscriptTail" => (k_here; (with_reducible show wpAny _ _ (subscriptTail _ _ (Value.ref _) (Value.int _ _)) _ _ _); k_dflt (first | (refine' sub_list ?N_z ?m_z ?a_z ?b_z ?x_z ?s_z ?_; (case N_z => k_asm); (case m_z => k_mem); (case a_z => decide); (case b_z => decide); (case x_z => rfl); (case s_z => with_unfolding_all rfl)) | (refine' sub_tup ?N_z ?m_z ?a_z ?b_z ?j_z ?x_z ?s_z ?_; (case N_z => k_asm); (case m_z => k_mem); (case a_z => decide); (case b_z => decide); (case j_z => rfl); (case x_z => rfl); (case s_z => with_unfolding_all rfl))))
  k_with "m subscriptTail Name Call ref int" => (k_here; (with_reducible show wpAny _ _ (subscriptTail _ _ (Value.ref _) (Value.int _ _)) _ _ _); k_dflt (first | (refine' sub_list_any ?N_z ?m_z ?a_z ?b_z ?z_z ?s_z ?_; (case N_z => k_asm); (case m_z => k_mem); (case a_z => omega); (case b_z => first | (simp only [List.length_cons, List.length_nil]; omega) | (simp only [List.length_append, List.length_cons, List.length_nil]; omega) | (simp only [List.length_append]; omega)); (case z_z => first | exact Nat.le_of_ble_eq_true rfl | (simp only [List.length_append, List.length_cons, List.length_nil]; omega) | (simp only [List.length_append]; omega)); (case s_z => with_unfolding_all rfl)) | (refine' sub_tup_any ?N_z ?m_z ?a_z ?b_z ?z_z ?s_z ?_; (case N_z => k_asm); (case m_z => k_mem); (case a_z => omega); (case b_z => first | (simp only [List.length_cons, List.length_nil]; omega) | (simp only [List.length_append, List.length_cons, List.length_nil]; omega) | (simp only [List.length_append]; omega)); (case z_z => first | exact Nat.le_of_ble_eq_true rfl | (simp only [List.length_append, List.length_cons, List.length_nil]; omega) | (simp only [List.length_append]; omega)); (case s_z => with_unfolding_all rfl))); intro _ _)
  k_with "m subscriptTail Tuple" => (k_here; (with_reducible show wpAny _ _ (subscriptTail _ _ (Value.ref _) (Value.int _ _)) _ _ _); k_dflt (first | (refine' sub_list_any ?N_z ?m_z ?a_z ?b_z ?z_z ?s_z ?_; (case N_z => k_asm); (case m_z => k_mem); (case a_z => omega); (case b_z => first | (simp only [List.length_cons, List.length_nil]; omega) | (simp only [List.length_append, List.length_cons, List.length_nil]; omega) | (simp only [List.length_append]; omega)); (case z_z => first | exact Nat.le_of_ble_eq_true rfl | (simp only [List.length_append, List.length_cons, List.length_nil]; omega) | (simp only [List.length_append]; omega)); (case s_z => with_unfolding_all rfl)) | (refine' sub_tup_any ?N_z ?m_z ?a_z ?b_z ?z_z ?s_z ?_; (case N_z => k_asm); (case m_z => k_mem); (case a_z => omega); (case b_z => first | (simp only [List.length_cons, List.length_nil]; omega) | (simp only [List.length_append, List.length_cons, List.length_nil]; omega) | (simp only [List.length_append]; omega)); (case z_z => first | exact Nat.le_of_ble_eq_true rfl | (simp only [List.length_append, List.length_cons, List.length_nil]; omega) | (simp only [List.length_append]; omega)); (case s_z => with_unfolding_all rfl))); intro _ _)
  k_with "m subscriptTail List" => (k_here; (with_reducible show wpAny _ _ (subscriptTail _ _ (Value.ref _) (Value.int _ _)) _ _ _); k_dflt (first | (refine' sub_list_any ?N_z ?m_z ?a_z ?b_z ?z_z ?s_z ?_; (case N_z => k_asm); (case m_z => k_mem); (case a_z => omega); (case b_z => first | (simp only [List.length_cons, List.length_nil]; omega) | (simp only [List.length_append, List.length_cons, List.length_nil]; omega) | (simp only [List.length_append]; omega)); (case z_z => first | exact Nat.le_of_ble_eq_true rfl | (simp only [List.length_append, List.length_cons, List.length_nil]; omega) | (simp only [List.length_append]; omega)); (case s_z => with_unfolding_all rfl)) | (refine' sub_tup_any ?N_z ?m_z ?a_z ?b_z ?z_z ?s_z ?_; (case N_z => k_asm); (case m_z => k_mem); (case a_z => omega); (case b_z => first | (simp only [List.length_cons, List.length_nil]; omega) | (simp only [List.length_append, List.length_cons, List.length_nil]; omega) | (simp only [List.length_append]; omega)); (case z_z => first | exact Nat.le_of_ble_eq_true rfl | (simp only [List.length_append, List.length_cons, List.length_nil]; omega) | (simp only [List.length_append]; omega)); (case s_z => with_unfolding_all rfl))); intro _ _)
  k_with "m execs cons" => (k_here; (with_reducible show wpAny _ _ _ _ _ (Shared.mk _ _ _ (_ + 1) _)); refine gen_toks ?_; intro (tk : Nat))
  trivial
theorem cond_ct {w : World} {e : Cx} : ∀ q, CondCt w e q := by
  have all : ∀ n, ∀ q : Ask, q.dep < n → CondCt w e q := by
    intro n
    induction n with
    | zero => intro q h; exact absurd h (Nat.not_lt_zero _)
    | succ n ih =>
      intro q h
      cases q with
      | leaf i => exact @leaf_ct w e i
      | not q => exact @cnot_ct w e q (fun q' h' => ih q' (by omega))
      | and x y => exact @cand_ct w e x y (fun q' h' => ih q' (by omega))
      | or x y => exact @cor_ct w e x y (fun q' h' => ih q' (by omega))
  exact fun q => all _ q (Nat.lt_succ_self _)

theorem kwdictc20 : True := by
  k_with_none
  k_with "m call builtin:len" => (k_here; (with_reducible show wpAny _ _ (call (Value.builtin "len") [Value.ref _]) _ _ _); k_dflt (refine' len_led ?k1_z ?k2_z ?k3_z ?k4_z ?_; (case k1_z => k_asm); (case k2_z => k_mem); (case k3_z => with_reducible assumption); (case k4_z => omega)))
  k_with "m ite" => (k_closed; with_reducible (first | refine ite_tt ?_ | refine ite_ff ?_ | refine PySem.W.ite_neg (by decide) ?_ | refine PySem.W.ite_pos (by decide) ?_))
  k_with "m subscriptTail" => (k_here; (with_reducible show wpAny _ _ (subscriptTail _ _ (Value.ref _) (Value.int _ _)) _ _ _); k_dflt (first | (refine' sub_list ?N_z ?m_z ?a_z ?b_z ?x_z ?s_z ?_; (case N_z => k_asm); (case m_z => k_mem); (case a_z => decide); (case b_z => decide); (case x_z => rfl); (case s_z => with_unfolding_all rfl)) | (refine' sub_tup ?N_z ?m_z ?a_z ?b_z ?j_z ?x_z ?s_z ?_; (case N_z => k_asm); (case m_z => k_mem); (case a_z => decide); (case b_z => decide); (case j_z => rfl); (case x_z => rfl); (case s_z => with_unfolding_all rfl))))
  k_with "m subscriptTail Name Call ref int" => (k_here; (with_reducible show wpAny _ _ (subscriptTail _ _ (Value.ref _) (Value.int _ _)) _ _ _); k_dflt (first | (refine' sub_list_any ?N_z ?m_z ?a_z ?b_z ?z_z ?s_z ?_; (case N_z => k_asm); (case m_z => k_mem); (case a_z => omega); (case b_z => first | (simp only [List.length_cons, List.length_nil]; omega) | (simp only [List.length_append, List.length_cons, List.length_nil]; omega) | (simp only [List.length_append]; omega)); (case z_z => first | exact Nat.le_of_ble_eq_true rfl | (simp only [List.length_append, List.length_cons, List.length_nil]; omega) | (simp only [List.length_append]; omega)); (case s_z => with_unfolding_all rfl)) | (refine' sub_tup_any ?N_z ?m_z ?a_z ?b_z ?z_z ?s_z ?_; (case N_z => k_asm); (case m_z => k_mem); (case a_z => omega); (case b_z => first | (simp only [List.length_cons, List.length_nil]; omega) | (simp only [List.length_append, List.length_cons, List.length_nil]; omega) | (simp only [List.length_append]; omega)); (case z_z => first | exact Nat.le_of_ble_eq_true rfl | (simp only [List.length_append, List.length_cons, List.length_nil]; omega) | (simp only [List.length_append]; omega)); (case s_z => with_unfolding_all rfl))); intro _ _)
  k_with "m subscriptTail Tuple" => (k_here; (with_reducible show wpAny _ _ (subscriptTail _ _ (Value.ref _) (Value.int _ _)) _ _ _); k_dflt (first | (refine' sub_list_any ?N_z ?m_z ?a_z ?b_z ?z_z ?s_z ?_; (case N_z => k_asm); (case m_z => k_mem); (case a_z => omega); (case b_z => first | (simp only [List.length_cons, List.length_nil]; omega) | (simp only [List.length_append, List.length_cons, List.length_nil]; omega) | (simp only [List.length_append]; omega)); (case z_z => first | exact Nat.le_of_ble_eq_true rfl | (simp only [List.length_append, List.length_cons, List.length_nil]; omega) | (simp only [List.length_append]; omega)); (case s_z => with_unfolding_all rfl)) | (refine' sub_tup_any ?N_z ?m_z ?a_z ?b_z ?z_z ?s_z ?_; (case N_z => k_asm); (case m_z => k_mem); (case a_z => omega); (case b_z => first | (simp only [List.length_cons, List.length_nil]; omega) | (simp only [List.length_append, List.length_cons, List.length_nil]; omega) | (simp only [List.length_append]; omega)); (case z_z => first | exact Nat.le_of_ble_eq_true rfl | (simp only [List.length_append, List.length_cons, List.length_nil]; omega) | (simp only [List.length_append]; omega)); (case s_z => with_unfolding_all rfl))); intro _ _)
  k_with "m subscriptTail List" => (k_here; (with_reducible show wpAny _ _ (subscriptTail _ _ (Value.ref _) (Value.int _ _)) _ _ _); k_dflt (first | (refine' sub_list_any ?N_z ?m_z ?a_z ?b_z ?z_z ?s_z ?_; (case N_z => k_asm); (case m_z => k_mem); (case a_z => omega); (case b_z => first | (simp only [List.length_cons, List.length_nil]; omega) | (simp only [List.length_append, List.length_cons, List.length_nil]; omega) | (simp only [List.length_append]; omega)); (case z_z => first | exact Nat.le_of_ble_eq_true rfl | (simp only [List.length_append, List.length_cons, List.length_nil]; omega) | (simp only [List.length_append]; omega)); (case s_z => with_unfolding_all rfl)) | (refine' sub_tup_any ?N_z ?m_z ?a_z ?b_z ?z_z ?s_z ?_; (case N_z => k_asm); (case m_z => k_mem); (case a_z => omega); (case b_z => first | (simp only [List.length_cons, List.length_nil]; omega) | (simp only [List.length_append, List.length_cons, List.length_nil]; omega) | (simp only [List.length_append]; omega)); (case z_z => first | exact Nat.le_of_ble_eq_true rfl | (simp only [List.length_append, List.length_cons, List.length_nil]; omega) | (simp only [List.length_append]; omega)); (case s_z => with_unfolding_all rfl))); intro _ _)
  k_with "m execs cons" => (k_here; (with_reducible show wpAny _ _ _ _ _ (Shared.mk _ _ _ (_ + 1) _)); refine gen_toks ?_; intro (tk : Nat))
  trivial
theorem valueAt_stored {kvs : List (Str × Value)} {k j : Str} {v : Value} : valueAt (stored kvs k v) j = if j = k then some v else valueAt kvs j := by
  unfold stored valueAt
  by_cases ha : kvs.any (fun kv => decide (kv.1 = k)) = true
  · rw [if_pos ha]
    induction kvs with
    | nil => simp at ha
    | cons p r ih =>
      obtain ⟨a, y⟩ := p
      by_cases hak : a = k
      · subst hak
        by_cases hj : j = a
        · subst hj; simp
        · have hj' : ¬ a = j := fun e => hj e.symm
          simp only [List.map_cons, if_true, List.find?_cons, hj', decide_false, if_neg hj]
          by_cases hr : r.any (fun kv => decide (kv.1 = a)) = true
          · have := ih hr
            rw [if_neg hj] at this
            exact this
          · have hno : ∀ q ∈ r, ¬ q.1 = a := by
              intro q hq e
              exact hr (List.any_eq_true.mpr ⟨q, hq, by simp [e]⟩)
            have e : r.map (fun kv => if kv.1 = a then (kv.1, v) else kv) = r := by
              conv => rhs; rw [← List.map_id r]
              exact List.map_congr_left fun q hq => by simp [hno q hq]
            rw [e]
      · have hr : r.any (fun kv => decide (kv.1 = k)) = true := by simpa [hak] using ha
        by_cases hj : a = j
        · subst hj
          simp [hak]
        · have := ih hr
          simp only [List.map_cons, if_neg hak, List.find?_cons, hj, decide_false]
          exact this
  · rw [if_neg ha]
    have hno : ∀ q ∈ kvs, ¬ q.1 = k := by
      intro q hq e
      exact ha (List.any_eq_true.mpr ⟨q, hq, by simp [e]⟩)
    rw [List.find?_append]
    by_cases hj : j = k
    · subst hj
      have e : kvs.find? (fun kv => decide (kv.1 = j)) = none := List.find?_eq_none.mpr fun q hq => by simpa using hno q hq
      rw [e]; simp
    · have hj' : ¬ k = j := fun e => hj e.symm
      cases kvs.find? (fun kv => decide (kv.1 = j)) <;> simp [hj, hj']

theorem stored_value {prog : Program} {w : World} {kvs : List (Str × Value)} {l : List Value} {kvs' : List (Str × Value)}
    (h : StoredAll (fun v k => (PySem.strKind prog w).is k v = true) (fun v y => ∃ k, (PySem.strKind prog w).is k v = true ∧ valueAt kvs k = some y) l kvs') :
    ∀ k, valueAt kvs' k = if (∃ v ∈ l, (PySem.strKind prog w).is k v = true) then valueAt kvs k else none := by
  induction h with
  | nil => intro k; simp [valueAt]
  | @snoc l kvs'' v k₀ y _ hk hy ih =>
    intro k
    obtain ⟨k₁, hk₁, hv⟩ := hy
    have e : k₁ = k₀ := (PySem.strKind prog w).inj v _ _ hk₁ hk
    subst e
    rw [valueAt_stored, ih k]
    by_cases hj : k = k₁
    · subst hj
      rw [if_pos rfl, if_pos ⟨v, by simp, hk⟩, hv]
    · rw [if_neg hj]
      have hno : ¬ (PySem.strKind prog w).is k v = true := fun q => hj ((PySem.strKind prog w).inj v _ _ q hk)
      have : (∃ u ∈ l ++ [v], (PySem.strKind prog w).is k u = true) ↔ ∃ u ∈ l, (PySem.strKind prog w).is k u = true := by
        constructor
        · rintro ⟨u, hu, q⟩
          rcases List.mem_append.mp hu with hu | hu
          · exact ⟨u, hu, q⟩
          · rw [List.mem_singleton.mp hu] at q; exact absurd q hno
        · rintro ⟨u, hu, q⟩; exact ⟨u, List.mem_append_left _ hu, q⟩
      simp only [this]

def strP (p : Str → Bool) : Value → Bool
  | .str k _ => p k
  | _ => false
theorem kwdictc221 : True := by
  k_with_none
  k_with "m call builtin:len" => (k_here; (with_reducible show wpAny _ _ (call (Value.builtin "len") [Value.ref _]) _ _ _); k_dflt (refine' len_led ?k1_z ?k2_z ?k3_z ?k4_z ?_; (case k1_z => k_asm); (case k2_z => k_mem); (case k3_z => with_reducible assumption); (case k4_z => omega)))
  k_with "m ite" => (k_closed; with_reducible (first | refine ite_tt ?_ | refine ite_ff ?_ | refine PySem.W.ite_neg (by decide) ?_ | refine PySem.W.ite_pos (by decide) ?_))
  k_with "m subscriptTail" => (k_here; (with_reducible show wpAny _ _ (subscriptTail _ _ (Value.ref _) (Value.int _ _)) _ _ _); k_dflt (first | (refine' sub_list ?N_z ?m_z ?a_z ?b_z ?x_z ?s_z ?_; (case N_z => k_asm); (case m_z => k_mem); (case a_z => decide); (case b_z => decide); (case x_z => rfl); (case s_z => with_unfolding_all rfl)) | (refine' sub_tup ?N_z ?m_z ?a_z ?b_z ?j_z ?x_z ?s_z ?_; (case N_z => k_asm); (case m_z => k_mem); (case a_z => decide); (case b_z => decide); (case j_z => rfl); (case x_z => rfl); (case s_z => with_unfolding_all rfl))))
  k_with "m subscriptTail Name Call ref int" => (k_here; (with_reducible show wpAny _ _ (subscriptTail _ _ (Value.ref _) (Value.int _ _)) _ _ _); k_dflt (first | (refine' sub_list_any ?N_z ?m_z ?a_z ?b_z ?z_z ?s_z ?_; (case N_z => k_asm); (case m_z => k_mem); (case a_z => omega); (case b_z => first | (simp only [List.length_cons, List.length_nil]; omega) | (simp only [List.length_append, List.length_cons, List.length_nil]; omega) | (simp only [List.length_append]; omega)); (case z_z => first | exact Nat.le_of_ble_eq_true rfl | (simp only [List.length_append, List.length_cons, List.length_nil]; omega) | (simp only [List.length_append]; omega)); (case s_z => with_unfolding_all rfl)) | (refine' sub_tup_any ?N_z ?m_z ?a_z ?b_z ?z_z ?s_z ?_; (case N_z => k_asm); (case m_z => k_mem); (case a_z => omega); (case b_z => first | (simp only [List.length_cons, List.length_nil]; omega) | (simp only [List.length_append, List.length_cons, List.length_nil]; omega) | (simp only [List.length_append]; omega)); (case z_z => first | exact Nat.le_of_ble_eq_true rfl | (simp only [List.length_append, List.length_cons, List.length_nil]; omega) | (simp only [List.length_append]; omega)); (case s_z => with_unfolding_all rfl))); intro _ _)
  k_with "m subscriptTail Tuple" => (k_here; (with_reducible show wpAny _ _ (subscriptTail _ _ (Value.ref _) (Value.int _ _)) _ _ _); k_dflt (first | (refine' sub_list_any ?N_z ?m_z ?a_z ?b_z ?z_z ?s_z ?_; (case N_z => k_asm); (case m_z => k_mem); (case a_z => omega); (case b_z => first | (simp only [List.length_cons, List.length_nil]; omega) | (simp only [List.length_append, List.length_cons, List.length_nil]; omega) | (simp only [List.length_append]; omega)); (case z_z => first | exact Nat.le_of_ble_eq_true rfl | (simp only [List.length_append, List.length_cons, List.length_nil]; omega) | (simp only [List.length_append]; omega)); (case s_z => with_unfolding_all rfl)) | (refine' sub_tup_any ?N_z ?m_z ?a_z ?b_z ?z_z ?s_z ?_; (case N_z => k_asm); (case m_z => k_mem); (case a_z => omega); (case b_z => first | (simp only [List.length_cons, List.length_nil]; omega) | (simp only [List.length_append, List.length_cons, List.length_nil]; omega) | (simp only [List.length_append]; omega)); (case z_z => first | exact Nat.le_of_ble_eq_true rfl | (simp only [List.length_append, List.length_cons, List.length_nil]; omega) | (simp only [List.length_append]; omega)); (case s_z => with_unfolding_all rfl))); intro _ _)
  k_with "m subscriptTail List" => (k_here; (with_reducible show wpAny _ _ (subscriptTail _ _ (Value.ref _) (Value.int _ _)) _ _ _); k_dflt (first | (refine' sub_list_any ?N_z ?m_z ?a_z ?b_z ?z_z ?s_z ?_; (case N_z => k_asm); (case m_z => k_mem); (case a_z => omega); (case b_z => first | (simp only [List.length_cons, List.length_nil]; omega) | (simp only [List.length_append, List.length_cons, List.length_nil]; omega) | (simp only [List.length_append]; omega)); (case z_z => first | exact Nat.le_of_ble_eq_true rfl | (simp only [List.length_append, List.length_cons, List.length_nil]; omega) | (simp only [List.length_append]; omega)); (case s_z => with_unfolding_all rfl)) | (refine' sub_tup_any ?N_z ?m_z ?a_z ?b_z ?z_z ?s_z ?_; (case N_z => k_asm); (case m_z => k_mem); (case a_z => omega); (case b_z => first | (simp only [List.length_cons, List.length_nil]; omega) | (simp only [List.length_append, List.length_cons, List.length_nil]; omega) | (simp only [List.length_append]; omega)); (case z_z => first | exact Nat.le_of_ble_eq_true rfl | (simp only [List.length_append, List.length_cons, List.length_nil]; omega) | (simp only [List.length_append]; omega)); (case s_z => with_unfolding_all rfl))); intro _ _)
  k_with "m execs cons" => (k_here; (with_reducible show wpAny _ _ _ _ _ (Shared.mk _ _ _ (_ + 1) _)); refine gen_toks ?_; intro (tk : Nat))
  trivial
theorem strP_is {prog : Program} {w : World} {p : Str → Bool} {k : Str} {v : Value} (h : (PySem.strKind prog w).is k v = true) : strP p v = p k := by
  obtain ⟨t, rfl⟩ := Value.isStrOf_shape h
  rfl
theorem valueAt_mem {kvs : List (Str × Value)} {k : Str} {v : Value} (h : valueAt kvs k = some v) : (k, v) ∈ kvs := by
  unfold valueAt at h
  cases e : kvs.find? (fun kv => decide (kv.1 = k)) with
  | none => rw [e] at h; cases h
  | some q =>
    rw [e] at h
    have h1 := List.find?_some e
    have h2 := List.mem_of_find?_eq_some e
    have h3 : q.2 = v := by simpa using h
    have h4 : q.1 = k := by simpa using h1
    rw [← h3, ← h4]; exact h2
theorem valueAt_of_mem {kvs : List (Str × Value)} {k : Str} {v : Value} (hn : (kvs.map (·.1)).Nodup) (h : (k, v) ∈ kvs) : valueAt kvs k = some v := by
  induction kvs with
  | nil => cases h
  | cons q r ih =>
    obtain ⟨a, y⟩ := q
    simp only [List.map_cons, List.nodup_cons] at hn
    unfold valueAt
    rcases List.mem_cons.mp h with e | h
    · cases e; simp
    · have hne : ¬ a = k := by
        rintro rfl
        exact hn.1 (List.mem_map_of_mem (f := (·.1)) h)
      have := ih hn.2 h
      unfold valueAt at this
      simp only [List.find?_cons, hne, decide_false]
      exact this
theorem dict_nodup {prog : Program} {w : World} {o : Obj} {kvs : List (Str × Value)} (h : o.IsDictOf (PySem.strKind prog w) kvs) : (kvs.map (·.1)).Nodup := by
  obtain ⟨_, _, _, _, _, _, hn⟩ := h
  exact hn
theorem filtered_value {prog : Program} {w : World} {kvs kvs' : List (Str × Value)} {vs : List Value} {p : Str → Bool} (hlen : vs.length = kvs.length)
    (hP : ∀ (j : Nat) (v : Value), vs[j]? = some v → ∃ k x, kvs[j]? = some (k, x) ∧ (PySem.strKind prog w).is k v = true)
    (h : StoredAll (fun v k => (PySem.strKind prog w).is k v = true) (fun v y => ∃ k, (PySem.strKind prog w).is k v = true ∧ valueAt kvs k = some y) (vs.filter (strP p)) kvs') :
    ∀ k, valueAt kvs' k = if p k then valueAt kvs k else none := by
  intro k
  rw [stored_value h k]
  by_cases hk : p k = true
  · rw [if_pos hk]
    by_cases hx : ∃ v ∈ vs.filter (strP p), (PySem.strKind prog w).is k v = true
    · rw [if_pos hx]
    · rw [if_neg hx]
      cases e : valueAt kvs k with
      | none => rfl
      | some y =>
        exfalso
        have hm := valueAt_mem e
        obtain ⟨j, hj, he⟩ := List.mem_iff_getElem.mp hm
        have hj' : j < vs.length := by omega
        obtain ⟨k', x', h1, h2⟩ := hP j vs[j] (List.getElem?_eq_getElem hj')
        rw [List.getElem?_eq_getElem hj, he] at h1
        cases h1
        exact hx ⟨vs[j], List.mem_filter.mpr ⟨List.getElem_mem hj', by rw [strP_is h2]; exact hk⟩, h2⟩
  · rw [if_neg hk]
    have : ¬ ∃ v ∈ vs.filter (strP p), (PySem.strKind prog w).is k v = true := by
      rintro ⟨v, hv, hi⟩
      have := (List.mem_filter.mp hv).2
      rw [strP_is hi] at this
      exact hk this
    rw [if_neg this]

section
variable {prog : Program} {w : World} {A : Around} {E : Value → Shared → Prop} {s : Shared} {h₀ : Heap} {L : Addr} {m : Str → Option Value} {news : Led} {env : Env}

inductive DKL (prog : Program) (w : World) (A : Around) (env : Env) (scope : Scope) (cl : List (Str × Addr)) (x y : Str) (ifs : List PySem.Expr) (kx vx : PySem.Expr) (d : Addr) (s₁ : Shared)
    (h₀ : Heap) (L : Addr) (m : Str → Option Value) (news : Led) (Q : Flow → Shared → Prop) : Prop
  | mk {o : Obj} {kvs : List (Str × Value)} {p : Str → Bool} (hm : (d, o) ∈ news) (hd : o.IsDictOf (PySem.strKind prog w) kvs) (lo : (d == sysModules) = false) (hsz : kvs.length ≤ 100000) (hlim : h₀.NoLimit)
    (tests : ∀ C k yv key s₂ m₂ E', valueAt kvs k = some yv → (PySem.strKind prog w).is k key = true → s₂.heap.Ns (compEnvC scope cl C env).locals m₂ → m₂ x = some key → (∀ b o, s₁.heap.get? b = some o → s₂.heap.get? b = some o) →
        wpAny (model prog w) A (forIn ifs true fun c r => if r = true then do let ok ← PySem.isTrue c (compEnvC scope cl C env) (eval c (compEnvC scope cl C env)); pure (ForInStep.yield ok) else pure (ForInStep.yield r))
          (fun ok s₃ => ok = p k ∧ Keeps s₂ s₃) E' s₂)
    (key : ∀ C k yv key s₂ m₂ E', valueAt kvs k = some yv → (PySem.strKind prog w).is k key = true → p k = true → s₂.heap.Ns (compEnvC scope cl C env).locals m₂ → m₂ x = some key → (∀ b o, s₁.heap.get? b = some o → s₂.heap.get? b = some o) →
        wpAny (model prog w) A (eval kx (compEnvC scope cl C env)) (fun key' s₃ => key' = key ∧ Keeps s₂ s₃) E' s₂)
    (val : ∀ C k yv key s₂ m₂ E', valueAt kvs k = some yv → (PySem.strKind prog w).is k key = true → p k = true → s₂.heap.Ns (compEnvC scope cl C env).locals m₂ → m₂ x = some key → (∀ b o, s₁.heap.get? b = some o → s₂.heap.get? b = some o) →
        wpAny (model prog w) A (eval vx (compEnvC scope cl C env)) (fun v s₃ => v = yv ∧ Keeps s₂ s₃) E' s₂)
    (cont : ∀ D oD kvs' h' tk, Fr h₀ L h' (fun z => if z = y then some (.ref D) else m z) → News h₀ L h' ((D, oD) :: news) → (∀ q ∈ news, @LT.lt Nat _ q.1 D) → (D == sysModules) = false → oD.IsDictOf (PySem.strKind prog w) kvs' →
        (∀ k, valueAt kvs' k = if p k then valueAt kvs k else none) → kvs'.length ≤ kvs.length → Q .next { s₁ with heap := h', toks := tk }) :
    DKL prog w A env scope cl x y ifs kx vx d s₁ h₀ L m news Q

theorem block_dict {kx vx iter : PySem.Expr} {x : Str} {px : Pos} {ifs : List PySem.Expr} {scope : Scope} {cl : List (Str × Addr)} {pos : Pos} {s₂ : Shared} {I : Addr} {fp wr : List Addr} {n : Nat} {P : Nat → Value → Prop}
    {St : Nat → Heap → Prop} (W : Walks prog w A I fp wr n P St) (hsz : n ≤ sizeLine) (p : Value → Bool) (FK : Value → Str → Prop) (FV : Value → Value → Prop) {RR : Value → Addr → Result → Shared → Prop}
    (hcell : ∀ y ∈ scope.names, y.2 ≠ .cell) (hkind : scope.kind = .function) (hx : scope.names.lookup x = some .local) (hst : St 0 s₂.heap) (hfp : ∀ b ∈ fp, @LT.lt Nat _ b s₂.heap.objs.size)
    (hq : QuietOnCD (PySem.strKind prog w) A env scope cl x ifs kx vx wr P p FK FV s₂)
    (hRR : ∀ C h' tk m' kvs (vs : List Value), s₂.heap.get? C = none → s₂.heap.objs.size ≠ C → h'.Ns C m' → h'.DictOf (PySem.strKind prog w) s₂.heap.objs.size kvs → vs.length = n → (∀ (j : Nat) (v : Value), vs[j]? = some v → P j v) → StoredAll FK FV (vs.filter p) kvs →
      (∀ b o, b ∉ wr → s₂.heap.get? b = some o → h'.get? b = some o) → RR (.ref s₂.heap.objs.size) C (.ok .next) { s₂ with heap := h', toks := tk }) :
    wpAny (model prog w) A newDict (fun acc s₃ => wpAny (model prog w) A (newFunctionEnv scope env.globals cl [] env.qual none .none (some env)) (fun cenv s₄ =>
      codeAny (model prog w) A (.compStart (.DictComp kx vx [⟨.Name x px, iter, ifs, 0⟩] scope pos) 0 (.ref I) acc { cenv with scope := relabel scope env }) (RR acc cenv.locals) s₄) E s₃) E s₂ := by
  have base : ∀ (o : Obj) b, @LT.lt Nat _ b s₂.heap.objs.size → b ≠ (s₂.heap.push o).objs.size := fun o b hb => by
    rw [Heap.size_push]; exact Nat.ne_of_lt (Nat.lt_succ_of_lt hb)
  refine wpAny_newObj_type (wpAny_newFunctionEnv hcell (fun _ h => nomatch h) (fun h₁ ns₁ sb₁ => ?_) hkind)
  dsimp only at ns₁ sb₁ ⊢
  have old : ∀ b o, s₂.heap.get? b = some o → h₁.get? b = some o := fun b o e =>
    sb₁.extBut b o (base _ b (Heap.lt_size e)) (Heap.get?_push_of_some _ (Heap.get?_push_of_some _ e))
  have hDne : s₂.heap.objs.size ≠ (s₂.heap.push { cls := .type "dict", dict := none, data := .dict #[] }).objs.size := by
    rw [Heap.size_push]; exact Nat.ne_of_lt (Nat.lt_succ_self _)
  have acc₁ : h₁.DictOf (PySem.strKind prog w) s₂.heap.objs.size [] :=
    (Heap.DictOf.new s₂.heap).at fun o e => sb₁.extBut _ _ hDne (Heap.get?_push_of_some _ e)
  have st₁ : St 0 h₁ := W.frame _ _ _ hst fun b _ o e => old b o e
  have Dfp : s₂.heap.objs.size ∉ fp := fun h => Nat.lt_irrefl _ (hfp _ h)
  have Cfp : (s₂.heap.push { cls := .type "dict", dict := none, data := .dict #[] }).objs.size ∉ fp := fun h => base _ _ (hfp _ h) rfl
  have none' : ∀ a, s₂.heap.objs.size ≤ a → s₂.heap.get? a = none := fun a ha => Heap.get?_none_of_le ha
  have turn : codeAny (model prog w) A (.compLoop (.DictComp kx vx [⟨.Name x px, iter, ifs, 0⟩] scope pos) 0 (.ref I) (.ref s₂.heap.objs.size) (compEnvC scope cl (s₂.heap.push { cls := .type "dict", dict := none, data := .dict #[] }).objs.size env))
      (RR (.ref s₂.heap.objs.size) (s₂.heap.push { cls := .type "dict", dict := none, data := .dict #[] }).objs.size) { s₂ with heap := h₁, toks := s₂.toks + 0 } := by
    have lift : ∀ (s₃ : Shared), (∀ b o, b ≠ (s₂.heap.push { cls := .type "dict", dict := none, data := .dict #[] }).objs.size → b ∉ wr → b ≠ s₂.heap.objs.size → h₁.get? b = some o → s₃.heap.get? b = some o) →
        ∀ b o, b ∉ wr → s₂.heap.get? b = some o → s₃.heap.get? b = some o := fun s₃ hk b o hb e => hk b o (base _ b (Heap.lt_size e)) hb (Nat.ne_of_lt (Heap.lt_size e)) (old b o e)
    refine codeAny_compLoop_walkD (hsz := hsz) (knd := PySem.strKind prog w) (cenv := compEnvC scope cl (s₂.heap.push { cls := .type "dict", dict := none, data := .dict #[] }).objs.size env) W p FK FV (lookup_relabel_local hx) (by simp [compEnvC, relabel, hkind]) hDne Dfp Cfp st₁ acc₁ ns₁
      (fun i v s₃ m₃ hv hn hm hk => hq.tests _ i v s₃ m₃ _ hv hn hm (lift s₃ hk)) (fun i v s₃ m₃ hv hpv hn hm hk => hq.key _ i v s₃ m₃ _ hv hpv hn hm (lift s₃ hk))
      (fun i v s₃ m₃ hv hpv hn hm hk => hq.val _ i v s₃ m₃ _ hv hpv hn hm (lift s₃ hk)) ?_
    intro h' tk m' kvs vs hn ha hlen hP hF hk
    exact hRR _ h' tk m' kvs vs (none' _ (by rw [Heap.size_push]; exact Nat.le_succ _)) hDne hn ha hlen hP hF (lift { s₂ with heap := h' } hk)
  exact codeAny_compStart_dict turn (W.self 0 _ _ _ st₁ turn)

theorem assign_dictK {kx vx iter : PySem.Expr} {x y : Str} {px py : Pos} {ifs : List PySem.Expr} {scope : Scope} {cl : List (Str × Addr)} {pos spos : Pos} {Q : Flow → Shared → Prop}
    (_F : Fr h₀ L s.heap m) (_N : News h₀ L s.heap news) (hL : env.locals = L) (hsw : swapsWith (.DictComp kx vx [⟨.Name x px, iter, ifs, 0⟩] scope pos) (some (.Name y py)) spos.line env = pure true)
    (hh : A.handled = none) (hclos : closureFor scope env = pure cl) (hcell : ∀ z ∈ scope.names, z.2 ≠ .cell) (hkind : scope.kind = .function)
    (hnames : ∀ z ∈ scope.names, z.2 = .local → scope.names.lookup z.1 = some .local) (hx : scope.names.lookup x = some .local)
    (hy : env.kindOf y = some .local) (hp : (env.scope.kind == .class || (env.scope.kind == .module && env.locals != env.globals)) = false)
    (hs : ∀ x, foldedSetIterable iter env x = pure x)
    (h : wpAny (model prog w) A (eval iter env) (fun xv s₁ => ∃ d, xv = .ref d ∧ Fr h₀ L s₁.heap m ∧ News h₀ L s₁.heap news ∧ DKL prog w A env scope cl x y ifs kx vx d s₁ h₀ L m news Q) E s) :
    wpAny (model prog w) A (exec (.Assign [.Name y py] (.DictComp kx vx [⟨.Name x px, iter, ifs, 0⟩] scope pos) spos) env) Q E s := by
  subst hL
  clear _F _N
  rw [exec_Assign_Name_used _ _ _ _ hsw]
  refine wpAny_bind (wpAny_standAt (wpAny_bind ?_))
  show wpAny _ A (do let _ ← comprehension (.DictComp kx vx [⟨.Name x px, iter, ifs, 0⟩] scope pos) scope env _ newDict false (eval iter env) (some (assign (.Name y py) env))) _ _ s
  refine wpAny_bind (wpAny_mono (wpAny_comprehension_free (use := some (assign (.Name y py) env)) (Q := fun _ s' => Q .next s') rfl hs hclos hkind hnames
    (wpAny_mono h (fun xv s₁ h₁ => ?_) fun _ _ e => e)) (fun _ s' hq => wpAny_pure (wpAny_pure hq)) fun _ _ e => e)
  obtain ⟨d, rfl, F, N, X⟩ := h₁
  obtain ⟨hm, hd, lo, hsz, hlim, htests, hkey, hval, hQ⟩ := X
  rename_i o kvs p
  have hD := kda_dict N hm hd
  obtain ⟨ep, hA⟩ := Heap.DictOf.dictAt hD
  have hlt : @LT.lt Nat _ d s₁.heap.objs.size := Heap.lt_size (N _ hm).1
  have up : ∀ (s₃ : Shared), (∀ b o, b ∉ [s₁.heap.objs.size] → (s₁.heap.push { cls := .type "dict_keyiterator", data := .fields #[.ref d, .int 0 0, .int kvs.length 0, .int ep 0] }).get? b = some o → s₃.heap.get? b = some o) → ∀ b o, s₁.heap.get? b = some o → s₃.heap.get? b = some o :=
    fun s₃ hk b o e => hk b o (fun hm => by rcases List.mem_cons.mp hm with rfl | hm; exact Nat.lt_irrefl _ (Heap.lt_size e); cases hm) (Heap.get?_push_of_some _ e)
  refine wpAny_pyIter_dict lo hA ?_
  refine block_dict (RR := fun acc C => compPost (model prog w) A E (some (assign (.Name y py) env)) (fun _ s' => Q .next s') acc C) (Walks.dictKeys hh _ _ (Nat.ne_of_lt hlt) kvs ep) (by rw [sizeLine_eq]; omega) (strP p)
    (fun v k => (PySem.strKind prog w).is k v = true) (fun v y => ∃ k, (PySem.strKind prog w).is k v = true ∧ valueAt kvs k = some y) hcell hkind hx
    ⟨⟨_, Heap.get?_push_size _ rfl, rfl, rfl⟩, hA.at' fun o e => Heap.get?_push_of_some _ e⟩ ?_ ⟨?_, ?_, ?_⟩ ?_
  · intro b hb
    show b < (s₁.heap.push _).objs.size
    rw [Heap.size_push]
    rcases List.mem_cons.mp hb with rfl | hb
    · exact Nat.lt_succ_self _
    · rcases List.mem_cons.mp hb with rfl | hb
      · exact Nat.lt_succ_of_lt hlt
      · cases hb
  · intro C i v s₃ m₃ E' hP hn hm hk
    obtain ⟨k, yv, hx, hi⟩ := hP
    rw [strP_is hi]
    exact htests C k yv v s₃ m₃ E' (valueAt_of_mem (dict_nodup hd) (List.mem_of_getElem? hx)) hi hn hm (up s₃ hk)
  · intro C i v s₃ m₃ E' hP hp' hn hm hk
    obtain ⟨k, yv, hx, hi⟩ := hP
    rw [strP_is hi] at hp'
    exact wpAny_mono (hkey C k yv v s₃ m₃ E' (valueAt_of_mem (dict_nodup hd) (List.mem_of_getElem? hx)) hi hp' hn hm (up s₃ hk)) (fun key s₄ h₄ => ⟨⟨k, by rw [h₄.1]; exact hi, hi⟩, h₄.2⟩) fun _ _ e => e
  · intro C i v s₃ m₃ E' hP hp' hn hm hk
    obtain ⟨k, yv, hx, hi⟩ := hP
    rw [strP_is hi] at hp'
    have hv := valueAt_of_mem (dict_nodup hd) (List.mem_of_getElem? hx)
    exact wpAny_mono (hval C k yv v s₃ m₃ E' hv hi hp' hn hm (up s₃ hk)) (fun y s₄ h₄ => ⟨⟨k, hi, by rw [h₄.1]; exact hv⟩, h₄.2⟩) fun _ _ e => e
  · intro C h' tk m' kvs' vs' hC hDC hnC hlD hlen hP hF hk
    generalize hDe : (s₁.heap.push { cls := .type "dict_keyiterator", data := .fields #[.ref d, .int 0 0, .int kvs.length 0, .int ep 0] }).objs.size = D at hDC hlD
    have hDs : D = s₁.heap.objs.size + 1 := by rw [← hDe, Heap.size_push]
    have hDn : (s₁.heap.push { cls := .type "dict_keyiterator", data := .fields #[.ref d, .int 0 0, .int kvs.length 0, .int ep 0] }).get? D = none := Heap.get?_none_of_le (by rw [hDe]; exact Nat.le_refl _)
    have hn : (s₁.heap.push { cls := .type "dict_keyiterator", data := .fields #[.ref d, .int 0 0, .int kvs.length 0, .int ep 0] }).Ns env.locals m := F.ns.push _
    have hLf : env.locals ∉ [s₁.heap.objs.size] := fun hm => by
      rcases List.mem_cons.mp hm with e | hm
      · exact Nat.lt_irrefl _ (e ▸ F.ns.lt)
      · cases hm
    have hLC : env.locals ≠ C := by rintro rfl; obtain ⟨o, _, _, ho, _⟩ := hn; rw [hC] at ho; cases ho
    have hLD : env.locals ≠ D := by rintro rfl; obtain ⟨o, _, _, ho, _⟩ := hn; rw [hDn] at ho; cases ho
    show wpAny _ A (assign (.Name y py) env (.ref D)) _ _ _
    refine wpAny_assign_Name (wpAny_storeName_local hy (hn.at' fun o e => hk _ o hLf e) (fun h₂ hn₂ hs₂ => ?_) hp)
    refine ⟨m', hnC.sameBut hs₂ (Ne.symm hLC), fun h₃ hs₃ => ?_⟩
    have keep : ∀ b o, b ≠ env.locals → s₁.heap.get? b = some o → h₃.get? b = some o := fun b o hb e =>
      hs₃.extBut b o (by rintro rfl; rw [Heap.get?_push_of_some _ e] at hC; cases hC) (hs₂.extBut b o hb (up { s₁ with heap := h' } hk b o e))
    have F₃ : Fr h₀ env.locals h₃ (fun z => if z = y then some (.ref D) else m z) := ⟨hn₂.sameBut hs₃ hLC, fun b o e => keep b o (Nat.ne_of_lt (Nat.lt_of_lt_of_le (Heap.lt_size e) F.above)) (F.keep b o e), F.above⟩
    have hD₃ := (hlD.extBut hs₂.extBut (Ne.symm hLD)).extBut hs₃.extBut hDC
    obtain ⟨oD, hoD, hdD⟩ := Heap.dictOf_iff.mp hD₃
    have fresh : h₀.get? D = none := by
      cases e : h₀.get? D with
      | none => rfl
      | some o' => rw [Heap.get?_push_of_some _ (F.keep _ _ e)] at hDn; cases hDn
    have low : ∀ q ∈ news, @LT.lt Nat _ q.1 D := fun q hq => by
      rw [hDs]; exact Nat.lt_succ_of_lt (Heap.lt_size (N q hq).1)
    have hmod : (D == sysModules) = false := by
      have h1 := modules_low hlim
      have h2 : h₀.objs.size ≤ s₁.heap.objs.size := Nat.le_of_lt (Nat.lt_of_le_of_lt F.above F.ns.lt)
      rw [hDs]
      exact beq_eq_false_iff_ne.mpr (Nat.ne_of_gt (Nat.lt_of_lt_of_le h1 (Nat.le_succ_of_le h2)))
    refine hQ D oD kvs' h₃ _ F₃ (fun q hq => ?_) low hmod hdD (filtered_value (by simpa using hlen) (fun j v hv => hP j v hv) hF) ?_
    · rcases List.mem_cons.mp hq with rfl | hq
      · exact ⟨hoD, Ne.symm hLD, fresh⟩
      · exact ⟨keep _ _ (N q hq).2.1 (N q hq).1, (N q hq).2⟩
    · have h1 := hF.length_le
      have h2 := List.length_filter_le (strP p) vs'
      omega
end
theorem set_led {prog : Program} {w : World} {A : Around} {E : Value → Shared → Prop} {s : Shared} {h₀ : Heap} {L D : Addr} {m : Str → Option Value} {full rest : Led} {o : Obj} {kvs : List (Str × Value)} {k : Str} {t : Tok} {v : Value} {Q : Unit → Shared → Prop}
    (F : Fr h₀ L s.heap m) (N : News h₀ L s.heap full) (U : Pull (D, o) full rest) (hne : ∀ p ∈ rest, p.1 ≠ D) (hd : o.IsDictOf (PySem.strKind prog w) kvs) (hsz : kvs.length ≤ 100000)
    (h : ∀ h' o', Fr h₀ L h' m → News h₀ L h' ((D, o') :: rest) → o'.IsDictOf (PySem.strKind prog w) (stored kvs k v) → Q () { s with heap := h', toks := s.toks + 1 }) :
    wpAny (model prog w) A (setItem (.ref D) (.str k t) v) Q E s :=
  kda_set F (newsPull N U) (UpdF.head hne) hd (strKind_is _ _ _ _) (by rw [sizeLine_eq]; omega) (fun h' o' F' N' hd' => h h' o' F' N' hd')
theorem item_led {prog : Program} {w : World} {A : Around} {E : Value → Shared → Prop} {s : Shared} {h₀ : Heap} {L d : Addr} {news : Led} {o : Obj} {kvs : List (Str × Value)} {k : Str} {t : Tok} {v : Value} {value slice : PySem.Expr} {Q : Value → Shared → Prop}
    (N : News h₀ L s.heap news) (hp : (d, o) ∈ news) (hd : o.IsDictOf (PySem.strKind prog w) kvs) (hl : valueAt kvs k = some v) (hs : subscripted slice false (.ref d) (.str k t) = operate [.ref d, .str k t] (getItem (.ref d) (.str k t))) (hg : ∀ r, letTemporaryGo value (.ref d) r = pure ()) (h : Q v { s with toks := s.toks + 1 }) :
    wpAny (model prog w) A (subscriptTail value slice (.ref d) (.str k t)) Q E s := kda_item N hp hd (strKind_is _ _ _ _) hl h hs hg

section
theorem kwfield22 : True := by
  k_with_none
  k_with "m call builtin:len" => (k_here; (with_reducible show wpAny _ _ (call (Value.builtin "len") [Value.ref _]) _ _ _); k_dflt (refine' len_led ?k1_z ?k2_z ?k3_z ?k4_z ?_; (case k1_z => k_asm); (case k2_z => k_mem); (case k3_z => with_reducible assumption); (case k4_z => omega)))
  k_with "m ite" => (k_closed; with_reducible (first | refine ite_tt ?_ | refine ite_ff ?_ | refine PySem.W.ite_neg (by decide) ?_ | refine PySem.W.ite_pos (by decide) ?_))
  k_with "m subscriptTail" => (k_here; (with_reducible show wpAny _ _ (subscriptTail _ _ (Value.ref _) (Value.int _ _)) _ _ _); k_dflt (first | (refine' sub_list ?N_z ?m_z ?a_z ?b_z ?x_z ?s_z ?_; (case N_z => k_asm); (case m_z => k_mem); (case a_z => decide); (case b_z => decide); (case x_z => rfl); (case s_z => with_unfolding_all rfl)) | (refine' sub_tup ?N_z ?m_z ?a_z ?b_z ?j_z ?x_z ?s_z ?_; (case N_z => k_asm); (case m_z => k_mem); (case a_z => decide); (case b_z => decide); (case j_z => rfl); (case x_z => rfl); (case s_z => with_unfolding_all rfl))))
  k_with "m subscriptTail Name Call ref int" => (k_here; (with_reducible show wpAny _ _ (subscriptTail _ _ (Value.ref _) (Value.int _ _)) _ _ _); k_dflt (first | (refine' sub_list_any ?N_z ?m_z ?a_z ?b_z ?z_z ?s_z ?_; (case N_z => k_asm); (case m_z => k_mem); (case a_z => omega); (case b_z => first | (simp only [List.length_cons, List.length_nil]; omega) | (simp only [List.length_append, List.length_cons, List.length_nil]; omega) | (simp only [List.length_append]; omega)); (case z_z => first | exact Nat.le_of_ble_eq_true rfl | (simp only [List.length_append, List.length_cons, List.length_nil]; omega) | (simp only [List.length_append]; omega)); (case s_z => with_unfolding_all rfl)) | (refine' sub_tup_any ?N_z ?m_z ?a_z ?b_z ?z_z ?s_z ?_; (case N_z => k_asm); (case m_z => k_mem); (case a_z => omega); (case b_z => first | (simp only [List.length_cons, List.length_nil]; omega) | (simp only [List.length_append, List.length_cons, List.length_nil]; omega) | (simp only [List.length_append]; omega)); (case z_z => first | exact Nat.le_of_ble_eq_true rfl | (simp only [List.length_append, List.length_cons, List.length_nil]; omega) | (simp only [List.length_append]; omega)); (case s_z => with_unfolding_all rfl))); intro _ _)
  k_with "m subscriptTail Tuple" => (k_here; (with_reducible show wpAny _ _ (subscriptTail _ _ (Value.ref _) (Value.int _ _)) _ _ _); k_dflt (first | (refine' sub_list_any ?N_z ?m_z ?a_z ?b_z ?z_z ?s_z ?_; (case N_z => k_asm); (case m_z => k_mem); (case a_z => omega); (case b_z => first | (simp only [List.length_cons, List.length_nil]; omega) | (simp only [List.length_append, List.length_cons, List.length_nil]; omega) | (simp only [List.length_append]; omega)); (case z_z => first | exact Nat.le_of_ble_eq_true rfl | (simp only [List.length_append, List.length_cons, List.length_nil]; omega) | (simp only [List.length_append]; omega)); (case s_z => with_unfolding_all rfl)) | (refine' sub_tup_any ?N_z ?m_z ?a_z ?b_z ?z_z ?s_z ?_; (case N_z => k_asm); (case m_z => k_mem); (case a_z => omega); (case b_z => first | (simp only [List.length_cons, List.length_nil]; omega) | (simp only [List.length_append, List.length_cons, List.length_nil]; omega) | (simp only [List.length_append]; omega)); (case z_z => first | exact Nat.le_of_ble_eq_true rfl | (simp only [List.length_append, List.length_cons, List.length_nil]; omega) | (simp only [List.length_append]; omega)); (case s_z => with_unfolding_all rfl))); intro _ _)
  k_with "m subscriptTail List" => (k_here; (with_reducible show wpAny _ _ (subscriptTail _ _ (Value.ref _) (Value.int _ _)) _ _ _); k_dflt (first | (refine' sub_list_any ?N_z ?m_z ?a_z ?b_z ?z_z ?s_z ?_; (case N_z => k_asm); (case m_z => k_mem); (case a_z => omega); (case b_z => first | (simp only [List.length_cons, List.length_nil]; omega) | (simp only [List.length_append, List.length_cons, List.length_nil]; omega) | (simp only [List.length_append]; omega)); (case z_z => first | exact Nat.le_of_ble_eq_true rfl | (simp only [List.length_append, List.length_cons, List.length_nil]; omega) | (simp only [List.length_append]; omega)); (case s_z => with_unfolding_all rfl)) | (refine' sub_tup_any ?N_z ?m_z ?a_z ?b_z ?z_z ?s_z ?_; (case N_z => k_asm); (case m_z => k_mem); (case a_z => omega); (case b_z => first | (simp only [List.length_cons, List.length_nil]; omega) | (simp only [List.length_append, List.length_cons, List.length_nil]; omega) | (simp only [List.length_append]; omega)); (case z_z => first | exact Nat.le_of_ble_eq_true rfl | (simp only [List.length_append, List.length_cons, List.length_nil]; omega) | (simp only [List.length_append]; omega)); (case s_z => with_unfolding_all rfl))); intro _ _)
  k_with "m execs cons" => (k_here; (with_reducible show wpAny _ _ _ _ _ (Shared.mk _ _ _ (_ + 1) _)); refine gen_toks ?_; intro (tk : Nat))
  k_with "m setItem ref str" => (k_here; (with_reducible show wpAny _ _ (setItem (Value.ref _) (Value.str _ _) _) _ _ _); k_dflt (refine' set_led ?F_z ?N_z ?U_z ?hne_z ?hd_z ?hz_z ?_; (case F_z => k_asm); (case N_z => k_asm); (case U_z => (repeat (first | exact Pull.here | apply Pull.there | apply Pull.app))); (case hd_z => assumption); (case hne_z => (repeat' (first | assumption | refine List.forall_mem_cons.mpr ⟨?_, ?_⟩ | refine List.forall_mem_append.mpr ⟨?_, ?_⟩ | exact List.forall_mem_nil _ | exact ne_of_abv1 (by assumption) | exact ne_of_abv2 (by assumption) (by k_mem) | exact ne_of_all (by assumption) (by k_mem) | exact ne_of_low1 (by assumption) (by k_mem) | exact ne_of_low (by assumption) (by (repeat' (first | assumption | exact List.forall_mem_nil _ | refine sub_app ?_ ?_ | refine sub_cons ?_ ?_ | k_mem | (intro _ _; k_mem))))))); (case hz_z => omega)); intro _ _ _ _ _; (try k_sweep))
  k_with "m subscriptTail" => (k_here; (with_reducible show wpAny _ _ (subscriptTail _ _ (Value.ref _) (Value.str _ _)) _ _ _); k_dflt (refine' item_led ?N_z ?hp_z ?hd_z ?hl_z ?hs_z ?hg_z ?_; (case N_z => k_asm); (case hp_z => k_mem); (case hd_z => assumption); (case hl_z => assumption); (case hs_z => with_unfolding_all rfl); (case hg_z => intro _; with_unfolding_all rfl)))
  k_with "m exec Assign cons DictComp" => refine stop_of ?_
  k_with "m Exists" => refine stop_of ?_
  trivial
theorem field_ct {w : World} {d : Addr} {o : Obj} {kvs : List (Str × Value)} {k : Str} {t : Tok} {v : Value} {news : Led}
    (hm : (d, o) ∈ news) (hd : o.IsDictOf (PySem.strKind Challenge.rw_sj0179_01.row.prog w) kvs) (lo : (d == sysModules) = false) (hsz : kvs.length ≤ 1000) :
    Ct w 103 [.ref d, .str k t, v] 10 100 news (fun r news' => ∃ tl, news' = tl ++ news ∧ (∀ q ∈ tl, ∀ p ∈ news, @LT.lt Nat _ p.1 q.1) ∧ ∃ D oD kvs', r = .ref D ∧ (D, oD) ∈ tl ∧ (D == sysModules) = false ∧ oD.IsDictOf (PySem.strKind Challenge.rw_sj0179_01.row.prog w) kvs' ∧ (∀ j, valueAt kvs' j = if j = k then some v else valueAt kvs j)) := by
  unfold Ct
  k_fill
  intro mean mg mb dp un gd cn cs a ccd cl outer A₀ base h₀ L m s Q E B F X N T hk hd' hu hret
  refine wpAny_call ?_
  k_dflt (refine' PySem.W.code_defC ?k1 ?k2 ?k3 ?k4 ?k5 ?kA ?kF ?kK ?k6 ?k7 ?k8 ?k9 ?kB ?kD ?_ ?c2 ?c3 ?c4; (case kA => exact rfl); (case kF => exact rfl); (case kK => first | exact rfl | assumption); (case k1 => k_asm); (case k2 => k_asm); (case k3 => k_asm); (case k4 => k_asm); (case k5 => k_asm); (case k6 => k_is); (case k7 => k_is); (case k8 => (first | omega | (simp only [depth_caller, depth_deeper]; decide) | ((have hcL9 := cLine_is); (simp only [units_caller, units_deeper, Around.mark_units]); omega) | ((try simp only [depth_deeper, units_deeper, depth_in1, units_in1]); omega) | fail "room")); (case k9 => exact BindsTo.of_eq rfl); (case kB => exact rfl); (case kD => decide +kernel); (case c2 => exact rfl); (case c3 => exact rfl); (case c4 => exact rfl); k_whole; intro g' L' h' tk' cells' FG' F' N' Y' B' X' T' l1; k_cells Y'; (try simp only [List.cons_append, List.nil_append] at N'); (try dsimp only); (try k_fold))
  k_steps
  unfold Stop
  rename Fr _ _ _ _ => F'
  rename News _ _ _ _ => N'
  refine assign_dictK F' N' rfl (by with_unfolding_all rfl) rfl (by with_unfolding_all rfl) (by decide) (by with_unfolding_all rfl) (by decide) (by with_unfolding_all rfl) (by with_unfolding_all rfl) (by with_unfolding_all rfl) (by intro _; with_unfolding_all rfl) ?_
  k_steps
  unfold Stop
  refine ⟨_, rfl, by k_asm, by k_asm, .mk (p := fun _ => true) (o := o) (kvs := kvs) (by k_mem) hd lo (by omega) (Top.nolimit (by assumption)) ?tests ?key ?val ?cont⟩
  case tests =>
    intro C j yv key s₂ m₂ E' hv hi hn hx hk
    exact wpAny_pure ⟨rfl, _, _, rfl, fun _ _ e => e⟩
  case key =>
    intro C j yv key s₂ m₂ E' hv hi hp hn hx hk
    k_steps
    (exact ⟨_, _, rfl, fun _ _ e => e⟩)
  case val =>
    intro C j yv key s₂ m₂ E' hv hi hp hn hx hk
    obtain ⟨tj, rfl⟩ := Value.isStrOf_shape hi
    k_steps
    (exact ⟨_, _, rfl, fun _ _ e => e⟩)
  case cont =>
    intro D oD kvs' h2 tk2 F2 N2 low2 lo2 hd2 hv2 hl2
    k_steps
    rename Fr _ _ _ _ => F3
    rename News _ _ _ _ => N3
    refine hret _ ([(D, _)] ++ news) _ _ F3 (newsSub N3 (by (repeat' (first | assumption | exact List.forall_mem_nil _ | refine sub_app ?_ ?_ | refine sub_cons ?_ ?_ | k_mem | (intro _ _; k_mem))))) ⟨[(D, _)], rfl, ?_, D, _, _, rfl, List.mem_singleton.mpr rfl, lo2, by assumption, fun j => ?_⟩
    · intro q hq p hp
      rw [List.mem_singleton.mp hq]
      exact low2 p (List.mem_cons_of_mem _ hp)
    · rw [valueAt_stored, hv2]
      simp
end

def pick {α : Type} (f : Nat → Bool) : Nat → List α → List α
  | _, [] => []
  | i, v :: r => if f i then v :: pick f (i + 1) r else pick f (i + 1) r
theorem kwenumc23 : True := by
  k_with_none
  k_with "m call builtin:len" => (k_here; (with_reducible show wpAny _ _ (call (Value.builtin "len") [Value.ref _]) _ _ _); k_dflt (refine' len_led ?k1_z ?k2_z ?k3_z ?k4_z ?_; (case k1_z => k_asm); (case k2_z => k_mem); (case k3_z => with_reducible assumption); (case k4_z => omega)))
  k_with "m ite" => (k_closed; with_reducible (first | refine ite_tt ?_ | refine ite_ff ?_ | refine PySem.W.ite_neg (by decide) ?_ | refine PySem.W.ite_pos (by decide) ?_))
  k_with "m subscriptTail" => (k_here; (with_reducible show wpAny _ _ (subscriptTail _ _ (Value.ref _) (Value.int _ _)) _ _ _); k_dflt (first | (refine' sub_list ?N_z ?m_z ?a_z ?b_z ?x_z ?s_z ?_; (case N_z => k_asm); (case m_z => k_mem); (case a_z => decide); (case b_z => decide); (case x_z => rfl); (case s_z => with_unfolding_all rfl)) | (refine' sub_tup ?N_z ?m_z ?a_z ?b_z ?j_z ?x_z ?s_z ?_; (case N_z => k_asm); (case m_z => k_mem); (case a_z => decide); (case b_z => decide); (case j_z => rfl); (case x_z => rfl); (case s_z => with_unfolding_all rfl))))
  k_with "m subscriptTail Name Call ref int" => (k_here; (with_reducible show wpAny _ _ (subscriptTail _ _ (Value.ref _) (Value.int _ _)) _ _ _); k_dflt (first | (refine' sub_list_any ?N_z ?m_z ?a_z ?b_z ?z_z ?s_z ?_; (case N_z => k_asm); (case m_z => k_mem); (case a_z => omega); (case b_z => first | (simp only [List.length_cons, List.length_nil]; omega) | (simp only [List.length_append, List.length_cons, List.length_nil]; omega) | (simp only [List.length_append]; omega)); (case z_z => first | exact Nat.le_of_ble_eq_true rfl | (simp only [List.length_append, List.length_cons, List.length_nil]; omega) | (simp only [List.length_append]; omega)); (case s_z => with_unfolding_all rfl)) | (refine' sub_tup_any ?N_z ?m_z ?a_z ?b_z ?z_z ?s_z ?_; (case N_z => k_asm); (case m_z => k_mem); (case a_z => omega); (case b_z => first | (simp only [List.length_cons, List.length_nil]; omega) | (simp only [List.length_append, List.length_cons, List.length_nil]; omega) | (simp only [List.length_append]; omega)); (case z_z => first | exact Nat.le_of_ble_eq_true rfl | (simp only [List.length_append, List.length_cons, List.length_nil]; omega) | (simp only [List.length_append]; omega)); (case s_z => with_unfolding_all rfl))); intro _ _)
  k_with "m subscriptTail Tuple" => (k_here; (with_reducible show wpAny _ _ (subscriptTail _ _ (Value.ref _) (Value.int _ _)) _ _ _); k_dflt (first | (refine' sub_list_any ?N_z ?m_z ?a_z ?b_z ?z_z ?s_z ?_; (case N_z => k_asm); (case m_z => k_mem); (case a_z => omega); (case b_z => first | (simp only [List.length_cons, List.length_nil]; omega) | (simp only [List.length_append, List.length_cons, List.length_nil]; omega) | (simp only [List.length_append]; omega)); (case z_z => first | exact Nat.le_of_ble_eq_true rfl | (simp only [List.length_append, List.length_cons, List.length_nil]; omega) | (simp only [List.length_append]; omega)); (case s_z => with_unfolding_all rfl)) | (refine' sub_tup_any ?N_z ?m_z ?a_z ?b_z ?z_z ?s_z ?_; (case N_z => k_asm); (case m_z => k_mem); (case a_z => omega); (case b_z => first | (simp only [List.length_cons, List.length_nil]; omega) | (simp only [List.length_append, List.length_cons, List.length_nil]; omega) | (simp only [List.length_append]; omega)); (case z_z => first | exact Nat.le_of_ble_eq_true rfl | (simp only [List.length_append, List.length_cons, List.length_nil]; omega) | (simp only [List.length_append]; omega)); (case s_z => with_unfolding_all rfl))); intro _ _)
  k_with "m subscriptTail List" => (k_here; (with_reducible show wpAny _ _ (subscriptTail _ _ (Value.ref _) (Value.int _ _)) _ _ _); k_dflt (first | (refine' sub_list_any ?N_z ?m_z ?a_z ?b_z ?z_z ?s_z ?_; (case N_z => k_asm); (case m_z => k_mem); (case a_z => omega); (case b_z => first | (simp only [List.length_cons, List.length_nil]; omega) | (simp only [List.length_append, List.length_cons, List.length_nil]; omega) | (simp only [List.length_append]; omega)); (case z_z => first | exact Nat.le_of_ble_eq_true rfl | (simp only [List.length_append, List.length_cons, List.length_nil]; omega) | (simp only [List.length_append]; omega)); (case s_z => with_unfolding_all rfl)) | (refine' sub_tup_any ?N_z ?m_z ?a_z ?b_z ?z_z ?s_z ?_; (case N_z => k_asm); (case m_z => k_mem); (case a_z => omega); (case b_z => first | (simp only [List.length_cons, List.length_nil]; omega) | (simp only [List.length_append, List.length_cons, List.length_nil]; omega) | (simp only [List.length_append]; omega)); (case z_z => first | exact Nat.le_of_ble_eq_true rfl | (simp only [List.length_append, List.length_cons, List.length_nil]; omega) | (simp only [List.length_append]; omega)); (case s_z => with_unfolding_all rfl))); intro _ _)
  k_with "m execs cons" => (k_here; (with_reducible show wpAny _ _ _ _ _ (Shared.mk _ _ _ (_ + 1) _)); refine gen_toks ?_; intro (tk : Nat))
  trivial
theorem pick_append {α : Type} (f : Nat → Bool) : ∀ (l : List α) (i : Nat) (v : α), pick f i (l ++ [v]) = pick f i l ++ (if f (i + l.length) then [v] else [])
  | [], i, v => by simp [pick]
  | a :: l, i, v => by
    have e := pick_append f l (i + 1) v
    have e2 : i + 1 + l.length = i + (a :: l).length := by simp; omega
    rw [e2] at e
    simp only [List.cons_append, pick]
    by_cases h : f i = true
    · rw [if_pos h, if_pos h, e]; rfl
    · rw [if_neg h, if_neg h, e]
theorem pick_take {α : Type} (f : Nat → Bool) {l : List α} {i : Nat} {v : α} (h : l[i]? = some v) : pick f 0 (l.take (i + 1)) = pick f 0 (l.take i) ++ (if f i then [v] else []) := by
  have hl : i < l.length := by
    rcases Nat.lt_or_ge i l.length with h' | h'
    · exact h'
    · rw [List.getElem?_eq_none h'] at h; cases h
  rw [List.take_add_one, h]
  have e := pick_append f (l.take i) 0 v
  rw [Nat.zero_add, List.length_take, Nat.min_eq_left (Nat.le_of_lt hl)] at e
  exact e

theorem pick_length {α : Type} (f : Nat → Bool) : ∀ (l : List α) (i : Nat), (pick f i l).length ≤ l.length
  | [], _ => Nat.le_refl _
  | a :: l, i => by
    have e := pick_length f l (i + 1)
    simp only [pick]
    split <;> simp only [List.length_cons] <;> omega

section
variable {prog : Program} {w : World} {A : Around} {E : Value → Shared → Prop} {s : Shared} {env : PySem.Env}

structure EnumQ (prog : Program) (w : World) (A : Around) (env : PySem.Env) (scope : Scope) (cl : List (Str × Addr)) (a b : Str) (c elt : PySem.Expr) (vs : List Value) (f : Nat → Bool) (s₁ : Shared) : Prop where
  test : ∀ C j v t s₂ m₂ E', vs[j]? = some v → s₂.heap.Ns (compEnvC scope cl C env).locals m₂ → m₂ a = some (.int (j : Nat) t) → m₂ b = some v → (∀ b o, s₁.heap.get? b = some o → s₂.heap.get? b = some o) →
    wpAny (model prog w) A (PySem.isTrue c (compEnvC scope cl C env) (eval c (compEnvC scope cl C env))) (fun ok s₃ => ok = f j ∧ Keeps s₂ s₃) E' s₂
  item : ∀ C j v t s₂ m₂ E', vs[j]? = some v → f j = true → s₂.heap.Ns (compEnvC scope cl C env).locals m₂ → m₂ a = some (.int (j : Nat) t) → m₂ b = some v → (∀ b o, s₁.heap.get? b = some o → s₂.heap.get? b = some o) →
    wpAny (model prog w) A (eval elt (compEnvC scope cl C env)) (fun y s₃ => y = v ∧ Keeps s₂ s₃) E' s₂

theorem enum_loop {a b : Str} {pa pb tp pos : Pos} {tk : Nat} {c elt iter : PySem.Expr} {scope : Scope} {cl : List (Str × Addr)} {vs : List Value} {f : Nat → Bool} {s₁ : Shared} {e it l C D : Addr} {m : Str → Option Value} {R : Result → Shared → Prop}
    (hh : A.handled = none) (hei : e ≠ it) (hle : l ≠ e) (hli : l ≠ it) (hsz : vs.length ≤ 100000)
    (hkind : scope.kind = .function) (ha : scope.names.lookup a = some .local) (hb : scope.names.lookup b = some .local) (hab : ¬ a = b)
    (hq : EnumQ prog w A env scope cl a b c elt vs f s₁) (hDC : D ≠ C) (hD : D ≠ e ∧ D ≠ it ∧ D ≠ l) (hC : C ≠ e ∧ C ≠ it ∧ C ≠ l)
    (he0 : s₁.heap.get? e = none) (hi0 : s₁.heap.get? it = none) (hC0 : s₁.heap.get? C = none) (hD0 : s₁.heap.get? D = none)
    (hst : (∃ old, IsEnum s.heap e it 0 old) ∧ s.heap.IsListIter it l 0 ∧ s.heap.IsList l vs.toArray) (hacc : s.heap.PlainList D #[]) (hn : s.heap.Ns C m)
    (hold : ∀ q o, s₁.heap.get? q = some o → s.heap.get? q = some o)
    (hR : ∀ h' tk m', h'.Ns C m' → h'.PlainList D (pick f 0 vs).toArray → (∀ q o, s₁.heap.get? q = some o → h'.get? q = some o) → R (.ok .next) { s with heap := h', toks := tk }) :
    codeAny (model prog w) A (.compLoop (.ListComp elt [⟨.Tuple [.Name a pa, .Name b pb] tk tp, iter, [c], 0⟩] scope pos) 0 (.ref e) (.ref D) (compEnvC scope cl C env)) R s := by
  have W := WalksT.enumerate (prog := prog) (w := w) hh e it l hei hle hli vs.toArray
  rw [List.size_toArray] at W
  have hp : ((compEnvC scope cl C env).scope.kind == .class || ((compEnvC scope cl C env).scope.kind == .module && (compEnvC scope cl C env).locals != (compEnvC scope cl C env).globals)) = false := by simp [compEnvC, relabel, hkind]
  refine kct_loop (fun k s' => ∃ h' tk' m' i, s' = { s with heap := h', toks := tk' } ∧ ((∃ old, IsEnum h' e it (i : Nat) old) ∧ h'.IsListIter it l i ∧ h'.IsList l vs.toArray) ∧ h'.PlainList D (pick f 0 (vs.take i)).toArray ∧ h'.Ns C m' ∧ i ≤ vs.length ∧ k = vs.length + 1 - i ∧ (∀ q o, s₁.heap.get? q = some o → h'.get? q = some o)) ?_ (vs.length + 1)
    ⟨s.heap, s.toks, m, 0, rfl, hst, by simpa [pick] using hacc, hn, Nat.zero_le _, rfl, hold⟩
  rintro k s' ⟨H, tk', m', i, rfl, hst', hacc', hn', hi, rfl, hold'⟩
  have off : ∀ q o, s₁.heap.get? q = some o → q ≠ e ∧ q ≠ it ∧ q ≠ C ∧ q ≠ D := fun q o x =>
    ⟨fun z => (by rw [z, he0] at x; cases x), fun z => (by rw [z, hi0] at x; cases x), fun z => (by rw [z, hC0] at x; cases x), fun z => (by rw [z, hD0] at x; cases x)⟩
  have wrD : D ∉ [e, it] := by simp [hD.1, hD.2.1]
  have wrC : C ∉ [e, it] := by simp [hC.1, hC.2.1]
  by_cases hlt : i < vs.length
  · refine W.item i _ _ _ hlt hst' fun T vals h₁ tk₁ hPt _ hT hMid hk₁ => ?_
    obtain ⟨t, v, hv, rfl⟩ := hPt
    have hv' : vs[i]? = some v := by simpa using hv
    refine W.go _ tk tp i T _ _ _ hMid fun h₂ hst₂ hk₂ => ?_
    have ht₂ : h₂.IsTuple T #[.int i t, v] := hT.at fun o x => hk₂ T o (W.apart i T h₁ hMid) x
    have up2 : ∀ q o, q ∉ [e, it] → H.get? q = some o → h₂.get? q = some o := fun q o hq' x => hk₂ q o hq' (hk₁ q o hq' x)
    refine wpAny_assign_Tuple hh ht₂ rfl rfl fun h₃ hx₃ => ?_
    replace hx₃ : Heap.ExtBut h₂.objs.size h₂ h₃ := hx₃
    have up₃ : ∀ q o, h₂.get? q = some o → h₃.get? q = some o := fun q o x => hx₃ q o (Nat.ne_of_lt (Heap.lt_size x)) x
    have hn₃ : h₃.Ns C m' := hn'.at' fun o x => up₃ _ o (up2 _ o wrC x)
    show wpAny _ A (do holding [v] (assign (.Name a pa) (compEnvC scope cl C env) (.int i t)); do holding [] (assign (.Name b pb) (compEnvC scope cl C env) v); pure ()) _ _ _
    refine wpAny_bind (wpAny_holding (wpAny_assign_Name (wpAny_storeName_local (lookup_relabel_local ha) hn₃ (fun h₄ hn₄ hs₄ => ?_) hp)))
    refine wpAny_bind (wpAny_holding (wpAny_assign_Name (wpAny_storeName_local (lookup_relabel_local hb) hn₄ (fun h₅ hn₅ hs₅ => wpAny_pure ?_) hp)))
    have up5 : ∀ q o, q ≠ C → h₂.get? q = some o → h₅.get? q = some o := fun q o hq' x => hs₅.extBut q o hq' (hs₄.extBut q o hq' (up₃ q o x))
    have hst₅ : (∃ old, IsEnum h₅ e it ((i + 1 : Nat) : Int) old) ∧ h₅.IsListIter it l (i + 1) ∧ h₅.IsList l vs.toArray := W.frame (i + 1) _ _ hst₂ fun q hq' o x => up5 q o (by
      rintro rfl
      rcases List.mem_cons.mp hq' with z | hq'
      · exact hC.1 z
      · rcases List.mem_cons.mp hq' with z | hq'
        · exact hC.2.1 z
        · exact hC.2.2 (List.mem_singleton.mp hq')) x
    have acc₅ : h₅.PlainList D (pick f 0 (vs.take i)).toArray := hacc'.at fun o x => up5 D o hDC (up2 D o wrD x)
    have old₅ : ∀ q o, s₁.heap.get? q = some o → h₅.get? q = some o := fun q o x => by
      obtain ⟨z1, z2, z3, z4⟩ := off q o x
      exact up5 q o z3 (up2 q o (by simp [z1, z2]) (hold' q o x))
    refine wpAny_mono (hq.test C i v t _ _ _ hv' hn₅ (by simp [hab]) (by simp) old₅) (fun ok s₆ h₆ => ?_) fun _ _ x => x
    obtain ⟨hok, h6, t6, rfl, k6⟩ := h₆
    subst hok
    have stk : ∀ (h' : Heap), (∀ q o, h₅.get? q = some o → q ≠ D → h'.get? q = some o) → ((∃ old, IsEnum h' e it ((i + 1 : Nat) : Int) old) ∧ h'.IsListIter it l (i + 1) ∧ h'.IsList l vs.toArray) := fun h' hk => W.frame (i + 1) _ _ hst₅ fun q hq' o x => hk q o x (by
      rintro rfl
      rcases List.mem_cons.mp hq' with z | hq'
      · exact hD.1 z
      · rcases List.mem_cons.mp hq' with z | hq'
        · exact hD.2.1 z
        · exact hD.2.2 (List.mem_singleton.mp hq'))
    have pt := pick_take f hv'
    have ns6 := hn₅.at' (h' := h6) fun o x => k6 _ o x
    by_cases hf : f i = true
    · rw [if_pos hf]
      refine wpAny_mono (hq.item C i v t _ _ _ hv' hf ns6 (by simp [hab]) (by simp) fun q o x => k6 q o (old₅ q o x)) (fun y s₇ h₇ => ?_) fun _ _ x => x
      obtain ⟨hy, h7, t7, rfl, k7⟩ := h₇
      subst hy
      refine wpAny_list_append_plain (acc₅.at fun o x => k7 _ o (k6 _ o x)) (fun h8 acc8 hs8 => ?_) (by
        have hpl : (pick f 0 (vs.take i)).length ≤ 100000 := Nat.le_trans (pick_length f _ 0) (Nat.le_trans (by rw [List.length_take]; exact Nat.min_le_right _ _) hsz)
        rw [List.size_toArray, sizeLine_eq]; omega)
      have up8 : ∀ q o, h₅.get? q = some o → q ≠ D → h8.get? q = some o := fun q o x z => hs8.extBut q o z (k7 q o (k6 q o x))
      refine ⟨vs.length + 1 - (i + 1), by omega, h8, t7, _, i + 1, rfl, stk h8 up8, ?_, hn₅.at' fun o x => up8 _ o x (Ne.symm hDC), hlt, rfl, fun q o x => up8 q o (old₅ q o x) (off q o x).2.2.2⟩
      rw [pt, if_pos hf]
      rw [List.push_toArray] at acc8
      exact acc8
    · rw [if_neg hf]
      have up8 : ∀ q o, h₅.get? q = some o → q ≠ D → h6.get? q = some o := fun q o x _ => k6 q o x
      refine ⟨vs.length + 1 - (i + 1), by omega, h6, t6, _, i + 1, rfl, stk h6 up8, ?_, ns6, hlt, rfl, fun q o x => k6 q o (old₅ q o x)⟩
      rw [pt, if_neg hf, List.append_nil]
      exact acc₅.at fun o x => k6 _ o x
  · have hin : i = vs.length := by omega
    subst hin
    refine W.done _ _ _ hst' fun h₁ tk₁ hk₁ => ?_
    have q := hR h₁ tk₁ m' (hn'.at' fun o x => hk₁ _ o wrC x) (by rw [List.take_length] at hacc'; exact hacc'.at fun o x => hk₁ _ o wrD x) fun q o x => by
      obtain ⟨z1, z2, z3, z4⟩ := off q o x
      exact hk₁ q o (by simp [z1, z2]) (hold' q o x)
    exact q
end

section
variable {prog : Program} {w : World} {A : Around} {E : Value → Shared → Prop} {s : Shared} {h₀ : Heap} {L : Addr} {m : Str → Option Value} {news : Led} {env : PySem.Env}

inductive EnumSrc (prog : Program) (w : World) (A : Around) (h₀ : Heap) (m : Str → Option Value) (news : Led) (env : PySem.Env) (scope : Scope) (cl : List (Str × Addr)) (a b : Str) (c elt : PySem.Expr) (Q : Value → Shared → Prop) (xv : Value) (s₁ : Shared) : Prop
  | mk {e it l : Addr} {vs : List Value} {n : Nat} {f : Nat → Bool} {s₀ : Shared} (hx : xv = .ref e) (hE : IsEnum s₁.heap e it 0 .none) (hI : s₁.heap.IsListIter it l 0) (hl : (l, PySem.W.listOf vs.toArray n) ∈ news) (hei : e ≠ it)
      (he0 : s₀.heap.get? e = none) (hi0 : s₀.heap.get? it = none) (hs0 : s₀.heap.objs.size ≤ s₁.heap.objs.size) (hk : ∀ q o, s₀.heap.get? q = some o → s₁.heap.get? q = some o) (F : Fr h₀ env.locals s₀.heap m) (N : News h₀ env.locals s₀.heap news) (hsz : vs.length ≤ 100000)
      (hq : EnumQ prog w A env scope cl a b c elt vs f s₀)
      (cont : ∀ D h' tk n', Fr h₀ env.locals h' m → News h₀ env.locals h' ((D, PySem.W.listOf (pick f 0 vs).toArray n') :: news) → (∀ q ∈ news, @LT.lt Nat _ q.1 D) → Q (.ref D) { s₁ with heap := h', toks := tk }) : EnumSrc prog w A h₀ m news env scope cl a b c elt Q xv s₁

theorem kwenumc224 : True := by
  k_with_none
  k_with "m call builtin:len" => (k_here; (with_reducible show wpAny _ _ (call (Value.builtin "len") [Value.ref _]) _ _ _); k_dflt (refine' len_led ?k1_z ?k2_z ?k3_z ?k4_z ?_; (case k1_z => k_asm); (case k2_z => k_mem); (case k3_z => with_reducible assumption); (case k4_z => omega)))
  k_with "m ite" => (k_closed; with_reducible (first | refine ite_tt ?_ | refine ite_ff ?_ | refine PySem.W.ite_neg (by decide) ?_ | refine PySem.W.ite_pos (by decide) ?_))
  k_with "m subscriptTail" => (k_here; (with_reducible show wpAny _ _ (subscriptTail _ _ (Value.ref _) (Value.int _ _)) _ _ _); k_dflt (first | (refine' sub_list ?N_z ?m_z ?a_z ?b_z ?x_z ?s_z ?_; (case N_z => k_asm); (case m_z => k_mem); (case a_z => decide); (case b_z => decide); (case x_z => rfl); (case s_z => with_unfolding_all rfl)) | (refine' sub_tup ?N_z ?m_z ?a_z ?b_z ?j_z ?x_z ?s_z ?_; (case N_z => k_asm); (case m_z => k_mem); (case a_z => decide); (case b_z => decide); (case j_z => rfl); (case x_z => rfl); (case s_z => with_unfolding_all rfl))))
  k_with "m subscriptTail Name Call ref int" => (k_here; (with_reducible show wpAny _ _ (subscriptTail _ _ (Value.ref _) (Value.int _ _)) _ _ _); k_dflt (first | (refine' sub_list_any ?N_z ?m_z ?a_z ?b_z ?z_z ?s_z ?_; (case N_z => k_asm); (case m_z => k_mem); (case a_z => omega); (case b_z => first | (simp only [List.length_cons, List.length_nil]; omega) | (simp only [List.length_append, List.length_cons, List.length_nil]; omega) | (simp only [List.length_append]; omega)); (case z_z => first | exact Nat.le_of_ble_eq_true rfl | (simp only [List.length_append, List.length_cons, List.length_nil]; omega) | (simp only [List.length_append]; omega)); (case s_z => with_unfolding_all rfl)) | (refine' sub_tup_any ?N_z ?m_z ?a_z ?b_z ?z_z ?s_z ?_; (case N_z => k_asm); (case m_z => k_mem); (case a_z => omega); (case b_z => first | (simp only [List.length_cons, List.length_nil]; omega) | (simp only [List.length_append, List.length_cons, List.length_nil]; omega) | (simp only [List.length_append]; omega)); (case z_z => first | exact Nat.le_of_ble_eq_true rfl | (simp only [List.length_append, List.length_cons, List.length_nil]; omega) | (simp only [List.length_append]; omega)); (case s_z => with_unfolding_all rfl))); intro _ _)
  k_with "m subscriptTail Tuple" => (k_here; (with_reducible show wpAny _ _ (subscriptTail _ _ (Value.ref _) (Value.int _ _)) _ _ _); k_dflt (first | (refine' sub_list_any ?N_z ?m_z ?a_z ?b_z ?z_z ?s_z ?_; (case N_z => k_asm); (case m_z => k_mem); (case a_z => omega); (case b_z => first | (simp only [List.length_cons, List.length_nil]; omega) | (simp only [List.length_append, List.length_cons, List.length_nil]; omega) | (simp only [List.length_append]; omega)); (case z_z => first | exact Nat.le_of_ble_eq_true rfl | (simp only [List.length_append, List.length_cons, List.length_nil]; omega) | (simp only [List.length_append]; omega)); (case s_z => with_unfolding_all rfl)) | (refine' sub_tup_any ?N_z ?m_z ?a_z ?b_z ?z_z ?s_z ?_; (case N_z => k_asm); (case m_z => k_mem); (case a_z => omega); (case b_z => first | (simp only [List.length_cons, List.length_nil]; omega) | (simp only [List.length_append, List.length_cons, List.length_nil]; omega) | (simp only [List.length_append]; omega)); (case z_z => first | exact Nat.le_of_ble_eq_true rfl | (simp only [List.length_append, List.length_cons, List.length_nil]; omega) | (simp only [List.length_append]; omega)); (case s_z => with_unfolding_all rfl))); intro _ _)
  k_with "m subscriptTail List" => (k_here; (with_reducible show wpAny _ _ (subscriptTail _ _ (Value.ref _) (Value.int _ _)) _ _ _); k_dflt (first | (refine' sub_list_any ?N_z ?m_z ?a_z ?b_z ?z_z ?s_z ?_; (case N_z => k_asm); (case m_z => k_mem); (case a_z => omega); (case b_z => first | (simp only [List.length_cons, List.length_nil]; omega) | (simp only [List.length_append, List.length_cons, List.length_nil]; omega) | (simp only [List.length_append]; omega)); (case z_z => first | exact Nat.le_of_ble_eq_true rfl | (simp only [List.length_append, List.length_cons, List.length_nil]; omega) | (simp only [List.length_append]; omega)); (case s_z => with_unfolding_all rfl)) | (refine' sub_tup_any ?N_z ?m_z ?a_z ?b_z ?z_z ?s_z ?_; (case N_z => k_asm); (case m_z => k_mem); (case a_z => omega); (case b_z => first | (simp only [List.length_cons, List.length_nil]; omega) | (simp only [List.length_append, List.length_cons, List.length_nil]; omega) | (simp only [List.length_append]; omega)); (case z_z => first | exact Nat.le_of_ble_eq_true rfl | (simp only [List.length_append, List.length_cons, List.length_nil]; omega) | (simp only [List.length_append]; omega)); (case s_z => with_unfolding_all rfl))); intro _ _)
  k_with "m execs cons" => (k_here; (with_reducible show wpAny _ _ _ _ _ (Shared.mk _ _ _ (_ + 1) _)); refine gen_toks ?_; intro (tk : Nat))
  trivial
theorem listcomp_enum {a b : Str} {pa pb tp pos : Pos} {tk : Nat} {c elt iter : PySem.Expr} {scope : Scope} {cl : List (Str × Addr)} {Q : Value → Shared → Prop}
    (_F : Fr h₀ env.locals s.heap m) (_N : News h₀ env.locals s.heap news) (hh : A.handled = none) (hclos : closureFor scope env = pure cl) (hcell : ∀ z ∈ scope.names, z.2 ≠ .cell) (hkind : scope.kind = .function)
    (hnames : ∀ z ∈ scope.names, z.2 = .local → scope.names.lookup z.1 = some .local) (ha : scope.names.lookup a = some .local) (hb : scope.names.lookup b = some .local) (hab : ¬ a = b)
    (hs : ∀ x, foldedSetIterable iter env x = pure x)
    (h : wpAny (model prog w) A (eval iter env) (EnumSrc prog w A h₀ m news env scope cl a b c elt Q) E s) :
    wpAny (model prog w) A (eval (.ListComp elt [⟨.Tuple [.Name a pa, .Name b pb] tk tp, iter, [c], 0⟩] scope pos) env) Q E s := by
  rw [eval_ListComp]
  refine wpAny_comprehension_free (use := none) rfl hs hclos hkind hnames (wpAny_mono h (fun xv s₁ h₁ => ?_) fun _ _ e => e)
  clear _F _N h
  obtain ⟨hx, hE, hI, hl, hei, he0, hi0, hs0, hk, F, N, hsz, hq, cont⟩ := h₁
  rename_i e it l vs n f s₀
  subst hx
  refine wpAny_pyIter_enum hE ?_
  refine wpAny_newObj_type (wpAny_newFunctionEnv hcell (fun _ h => nomatch h) (fun h₂ ns₂ sb₂ => ?_) hkind)
  dsimp only at ns₂ sb₂ ⊢
  have elt' : ∀ q o, s₁.heap.get? q = some o → @LT.lt Nat _ q s₁.heap.objs.size := fun q o x => Heap.lt_size x
  have hCs : (s₁.heap.push { cls := .type "list", dict := none, data := .seq ([] : List Value).toArray }).objs.size = s₁.heap.objs.size + 1 := Heap.size_push ..
  have old : ∀ q o, s₁.heap.get? q = some o → h₂.get? q = some o := fun q o x =>
    sb₂.extBut q o (by rw [hCs]; exact Nat.ne_of_lt (Nat.lt_succ_of_lt (elt' q o x))) (Heap.get?_push_of_some _ (Heap.get?_push_of_some _ x))
  have hDC : s₁.heap.objs.size ≠ (s₁.heap.push { cls := .type "list", dict := none, data := .seq ([] : List Value).toArray }).objs.size := by rw [hCs]; exact Nat.ne_of_lt (Nat.lt_succ_self _)
  have acc₂ : h₂.PlainList s₁.heap.objs.size #[] := ⟨_, sb₂.extBut _ _ hDC (Heap.get?_push_of_some _ (Heap.get?_push_size _ rfl))⟩
  have ll := (N _ hl).1
  have lt_l := elt' _ _ (hk _ _ ll)
  have lt_e := elt' _ _ hE
  have lt_i : @LT.lt Nat _ it s₁.heap.objs.size := by obtain ⟨_, x, _⟩ := hI; exact Heap.lt_size x
  have hle : l ≠ e := fun z => by rw [z, he0] at ll; cases ll
  have hli : l ≠ it := fun z => by rw [z, hi0] at ll; cases ll
  have fresh : ∀ q, s₁.heap.objs.size ≤ q → s₀.heap.get? q = none := fun q hq' => Heap.get?_none_of_le (Nat.le_trans hs0 hq')
  have go : codeAny (model prog w) A (.compLoop (.ListComp elt [⟨.Tuple [.Name a pa, .Name b pb] tk tp, iter, [c], 0⟩] scope pos) 0 (.ref e) (.ref s₁.heap.objs.size) (compEnvC scope cl (s₁.heap.push { cls := .type "list", dict := none, data := .seq ([] : List Value).toArray }).objs.size env))
      (compPost (model prog w) A E none Q (.ref s₁.heap.objs.size) (s₁.heap.push { cls := .type "list", dict := none, data := .seq ([] : List Value).toArray }).objs.size) { s₁ with heap := h₂, toks := s₁.toks + 0 } := by
    refine enum_loop (s₁ := s₀) (f := f) hh hei hle hli hsz hkind ha hb hab hq hDC ⟨Nat.ne_of_gt lt_e, Nat.ne_of_gt lt_i, Nat.ne_of_gt lt_l⟩
      ⟨by rw [hCs]; exact Nat.ne_of_gt (Nat.lt_succ_of_lt lt_e), by rw [hCs]; exact Nat.ne_of_gt (Nat.lt_succ_of_lt lt_i), by rw [hCs]; exact Nat.ne_of_gt (Nat.lt_succ_of_lt lt_l)⟩
      he0 hi0 (fresh _ (by rw [hCs]; exact Nat.le_succ _)) (fresh _ (Nat.le_refl _)) ⟨⟨_, old _ _ hE⟩, hI.at fun o x => old _ o x, ⟨_, old _ _ (hk _ _ ll), rfl, n, rfl⟩⟩ acc₂ ns₂ (fun q o x => old q o (hk q o x)) ?_
    intro h3 tk3 m3 ns3 acc3 keep3
    refine ⟨m3, ns3, fun h4 sb4 => ?_⟩
    obtain ⟨n4, hn4⟩ := acc3.extBut sb4.extBut hDC
    have keep4 : ∀ q o, s₀.heap.get? q = some o → h4.get? q = some o := fun q o x => sb4.extBut q o (fun z => by rw [z, fresh _ (by rw [hCs]; exact Nat.le_succ _)] at x; cases x) (keep3 q o x)
    have F4 : Fr h₀ env.locals h4 m := F.keeps keep4
    refine cont s₁.heap.objs.size h4 tk3 n4 F4 (fun q hq' => ?_) fun q hq' => elt' _ _ (hk _ _ (N q hq').1)
    rcases List.mem_cons.mp hq' with rfl | hq'
    · refine ⟨hn4, Nat.ne_of_gt (Nat.lt_of_lt_of_le F.ns.lt hs0), ?_⟩
      cases z : h₀.get? s₁.heap.objs.size with
      | none => rfl
      | some o => have := F.keep _ _ z; rw [fresh _ (Nat.le_refl _)] at this; cases this
    · exact ⟨keep4 _ _ (N q hq').1, (N q hq').2⟩
  exact codeAny_compStart_list go (wpAny_pyIter_enum (old _ _ hE) go)
end
theorem sorted_led {prog : Program} {w : World} {A : Around} {E : Value → Shared → Prop} {s : Shared} {h₀ : Heap} {L a : Addr} {m : Str → Option Value} {news : Led} {vs : List Value} {n : Nat} {ns : List Int} {Q : Value → Shared → Prop}
    (F : Fr h₀ L s.heap m) (N : News h₀ L s.heap news) (hm : (a, PySem.W.listOf vs.toArray n) ∈ news) (hi : IntsAre vs ns) (h64 : ns.length < 64)
    (h : ∀ D vs' ns' c h', Fr h₀ L h' m → News h₀ L h' ((D, PySem.W.listOf vs'.toArray c) :: news) → (∀ q ∈ news, @LT.lt Nat _ q.1 D) → IntsAre vs' ns' → ns'.length = ns.length → ns'.Perm ns → ns'.Pairwise (· ≤ ·) → Q (.ref D) { s with heap := h' }) :
    wpAny (model prog w) A (call (.builtin "sorted") [.ref a]) Q E s :=
  kso_sorted F N (PySem.IsL.isList (n := n) (N _ hm).1) hi h64 fun D vs' ns' c h' F' N' l1 i' e' p' o' _ => h D vs' ns' c h' F' N' l1 i' e' p' o'
theorem ne_low_add {b c : Addr} {l : Led} (h : ∀ p ∈ l, @LT.lt Nat _ p.1 b) (hbc : @LE.le Nat _ b c) : ∀ q ∈ l, q.1 ≠ c := fun q hq => Nat.ne_of_lt (Nat.lt_of_lt_of_le (h q hq) hbc)
theorem cell_led {M : Model} {A : Around} {E : Value → Shared → Prop} {s : Shared} {h₀ : Heap} {L a c : Addr} {m : Str → Option Value} {full rest : Led} {cn : Str} {cs : Scope} {ccd : Value} {cl : List (Str × Addr)} {x : Str} {v : Value} {o : Obj} {v₀ : Option Value} {Q : Unit → Shared → Prop}
    (F : Fr h₀ L s.heap m) (N : News h₀ L s.heap full) (hc : cl.lookup x = some c) (U : Pull (c, o) full rest) (hne : ∀ p ∈ rest, p.1 ≠ c) (hd : o.data = .cell v₀)
    (hk : cs.kind = .function) (hx : (envX cn cs L a ccd cl).kindOf x = some .cell)
    (h : ∀ h' o', Fr h₀ L h' m → News h₀ L h' ((c, o') :: rest) → o'.data = .cell (some v) → Q () { s with heap := h' }) : wpAny M A (storeName (envX cn cs L a ccd cl) x v) Q E s :=
  storeX_C F (newsPull N U) hc (UpdF.head hne) hd (fun h' o' F' N' d' => h h' o' F' N' d') hk hx
theorem enum_led {prog : Program} {w : World} {A : Around} {E : Value → Shared → Prop} {s : Shared} {h₀ : Heap} {L l : Addr} {m : Str → Option Value} {news : Led} {vs : List Value} {n : Nat} {Q : Value → Shared → Prop}
    (_F : Fr h₀ L s.heap m) (N : News h₀ L s.heap news) (hm : (l, PySem.W.listOf vs.toArray n) ∈ news)
    (h : ∀ h' e it, IsEnum h' e it 0 .none → h'.IsListIter it l 0 → e ≠ it → s.heap.get? e = none → s.heap.get? it = none → s.heap.objs.size ≤ h'.objs.size → (∀ q o, s.heap.get? q = some o → h'.get? q = some o) → Q (.ref e) { s with heap := h' }) :
    wpAny (model prog w) A (call (.type "enumerate") [.ref l]) Q E s :=
  call_enumerate_list (PySem.IsL.isList (n := n) (N _ hm).1) fun h' hE hI hsz hk => h h' _ _ hE hI (Nat.succ_ne_self _) (Heap.get?_none_of_le (Nat.le_succ _)) (Heap.get?_none_of_le (Nat.le_refl _)) (by rw [hsz]; exact Nat.le_add_right _ _) hk

section
variable {prog : Program} {w : World} {d : Addr} {k : Str} {key dflt : Value}
theorem kwpop25 : True := by
  k_with_none
  k_with "m call builtin:len" => (k_here; (with_reducible show wpAny _ _ (call (Value.builtin "len") [Value.ref _]) _ _ _); k_dflt (refine' len_led ?k1_z ?k2_z ?k3_z ?k4_z ?_; (case k1_z => k_asm); (case k2_z => k_mem); (case k3_z => with_reducible assumption); (case k4_z => omega)))
  k_with "m ite" => (k_closed; with_reducible (first | refine ite_tt ?_ | refine ite_ff ?_ | refine PySem.W.ite_neg (by decide) ?_ | refine PySem.W.ite_pos (by decide) ?_))
  k_with "m subscriptTail" => (k_here; (with_reducible show wpAny _ _ (subscriptTail _ _ (Value.ref _) (Value.int _ _)) _ _ _); k_dflt (first | (refine' sub_list ?N_z ?m_z ?a_z ?b_z ?x_z ?s_z ?_; (case N_z => k_asm); (case m_z => k_mem); (case a_z => decide); (case b_z => decide); (case x_z => rfl); (case s_z => with_unfolding_all rfl)) | (refine' sub_tup ?N_z ?m_z ?a_z ?b_z ?j_z ?x_z ?s_z ?_; (case N_z => k_asm); (case m_z => k_mem); (case a_z => decide); (case b_z => decide); (case j_z => rfl); (case x_z => rfl); (case s_z => with_unfolding_all rfl))))
  k_with "m subscriptTail Name Call ref int" => (k_here; (with_reducible show wpAny _ _ (subscriptTail _ _ (Value.ref _) (Value.int _ _)) _ _ _); k_dflt (first | (refine' sub_list_any ?N_z ?m_z ?a_z ?b_z ?z_z ?s_z ?_; (case N_z => k_asm); (case m_z => k_mem); (case a_z => omega); (case b_z => first | (simp only [List.length_cons, List.length_nil]; omega) | (simp only [List.length_append, List.length_cons, List.length_nil]; omega) | (simp only [List.length_append]; omega)); (case z_z => first | exact Nat.le_of_ble_eq_true rfl | (simp only [List.length_append, List.length_cons, List.length_nil]; omega) | (simp only [List.length_append]; omega)); (case s_z => with_unfolding_all rfl)) | (refine' sub_tup_any ?N_z ?m_z ?a_z ?b_z ?z_z ?s_z ?_; (case N_z => k_asm); (case m_z => k_mem); (case a_z => omega); (case b_z => first | (simp only [List.length_cons, List.length_nil]; omega) | (simp only [List.length_append, List.length_cons, List.length_nil]; omega) | (simp only [List.length_append]; omega)); (case z_z => first | exact Nat.le_of_ble_eq_true rfl | (simp only [List.length_append, List.length_cons, List.length_nil]; omega) | (simp only [List.length_append]; omega)); (case s_z => with_unfolding_all rfl))); intro _ _)
  k_with "m subscriptTail Tuple" => (k_here; (with_reducible show wpAny _ _ (subscriptTail _ _ (Value.ref _) (Value.int _ _)) _ _ _); k_dflt (first | (refine' sub_list_any ?N_z ?m_z ?a_z ?b_z ?z_z ?s_z ?_; (case N_z => k_asm); (case m_z => k_mem); (case a_z => omega); (case b_z => first | (simp only [List.length_cons, List.length_nil]; omega) | (simp only [List.length_append, List.length_cons, List.length_nil]; omega) | (simp only [List.length_append]; omega)); (case z_z => first | exact Nat.le_of_ble_eq_true rfl | (simp only [List.length_append, List.length_cons, List.length_nil]; omega) | (simp only [List.length_append]; omega)); (case s_z => with_unfolding_all rfl)) | (refine' sub_tup_any ?N_z ?m_z ?a_z ?b_z ?z_z ?s_z ?_; (case N_z => k_asm); (case m_z => k_mem); (case a_z => omega); (case b_z => first | (simp only [List.length_cons, List.length_nil]; omega) | (simp only [List.length_append, List.length_cons, List.length_nil]; omega) | (simp only [List.length_append]; omega)); (case z_z => first | exact Nat.le_of_ble_eq_true rfl | (simp only [List.length_append, List.length_cons, List.length_nil]; omega) | (simp only [List.length_append]; omega)); (case s_z => with_unfolding_all rfl))); intro _ _)
  k_with "m subscriptTail List" => (k_here; (with_reducible show wpAny _ _ (subscriptTail _ _ (Value.ref _) (Value.int _ _)) _ _ _); k_dflt (first | (refine' sub_list_any ?N_z ?m_z ?a_z ?b_z ?z_z ?s_z ?_; (case N_z => k_asm); (case m_z => k_mem); (case a_z => omega); (case b_z => first | (simp only [List.length_cons, List.length_nil]; omega) | (simp only [List.length_append, List.length_cons, List.length_nil]; omega) | (simp only [List.length_append]; omega)); (case z_z => first | exact Nat.le_of_ble_eq_true rfl | (simp only [List.length_append, List.length_cons, List.length_nil]; omega) | (simp only [List.length_append]; omega)); (case s_z => with_unfolding_all rfl)) | (refine' sub_tup_any ?N_z ?m_z ?a_z ?b_z ?z_z ?s_z ?_; (case N_z => k_asm); (case m_z => k_mem); (case a_z => omega); (case b_z => first | (simp only [List.length_cons, List.length_nil]; omega) | (simp only [List.length_append, List.length_cons, List.length_nil]; omega) | (simp only [List.length_append]; omega)); (case z_z => first | exact Nat.le_of_ble_eq_true rfl | (simp only [List.length_append, List.length_cons, List.length_nil]; omega) | (simp only [List.length_append]; omega)); (case s_z => with_unfolding_all rfl))); intro _ _)
  k_with "m execs cons" => (k_here; (with_reducible show wpAny _ _ _ _ _ (Shared.mk _ _ _ (_ + 1) _)); refine gen_toks ?_; intro (tk : Nat))
  trivial
theorem meets_pop_absent (hkey : (PySem.strKind prog w).is k key = true) (hpart : (keyPart key).isSome = true) (lo : (d == sysModules) = false) :
    MeetsIn prog w (Builtin.«dict.pop» ⟨[.ref d, key, dflt], []⟩) (fun _ R s => ∃ kvs, s.heap.DictOf (PySem.strKind prog w) d kvs ∧ kvs.length ≤ sizeLine ∧ valueAt kvs k = none ∧ R (.ok (.ret dflt)) { s with toks := s.toks + 1 }) :=
  .of_wp fun A R s ⟨kvs, hm, hsz, hv, h⟩ => by
    unfold Builtin.«dict.pop»
    refine wpAny_bind ?_
    unfold Builtin.Dict.keyAndDefault
    refine wpAny_bind (wpAny_notOrdered_dict hm.typeIs ?_)
    show wpAny _ _ (pure (d, key, some dflt)) _ _ s
    refine wpAny_pure ?_
    simp only [hpart, if_true]
    refine wpAny_bind (wpAny_pure ?_)
    simp only [Bool.false_eq_true, if_false]
    refine wpAny_bind (wpAny_takeOut_pairs (hsz := hsz) hkey hm (fun hn => ?_) fun e _ he h' hm' hs' => by rw [hv] at he; cases he)
    simp only [Option.isNone_none, if_true]
    refine wpAny_bind (wpAny_missedRemoval_other lo ?_)
    exact wpAny_bind (wpAny_rule (wpAny_pure ⟨dflt, rfl, h⟩))
end
theorem pop_led {prog : Program} {w : World} {A : Around} {E : Value → Shared → Prop} {s : Shared} {h₀ : Heap} {L d : Addr} {news : Led} {o : Obj} {kvs : List (Str × Value)} {k : Str} {t : Tok} {dflt : Value} {Q : Value → Shared → Prop}
    (N : News h₀ L s.heap news) (hp : (d, o) ∈ news) (hd : o.IsDictOf (PySem.strKind prog w) kvs) (lo : (d == sysModules) = false) (hsz : kvs.length ≤ 100000) (hv : valueAt kvs k = none) (h : Q dflt { s with toks := s.toks + 1 }) :
    wpAny (model prog w) A (call (.builtin "dict.pop") [.ref d, .str k t, dflt]) Q E s :=
  have hD := kda_dict N hp hd
  call_meetsIn PySem.F.slot_dict_pop hD.typeIs PySem.F.entry_dict_pop (PySem.F.args_dict_pop_3 _ _ _) (meets_pop_absent (strKind_is _ _ _ _) rfl lo) ⟨kvs, hD, by rw [sizeLine_eq]; omega, hv, h⟩

theorem kwcomp026 : True := by
  k_with_none
  k_with "m call builtin:len" => (k_here; (with_reducible show wpAny _ _ (call (Value.builtin "len") [Value.ref _]) _ _ _); k_dflt (refine' len_led ?k1_z ?k2_z ?k3_z ?k4_z ?_; (case k1_z => k_asm); (case k2_z => k_mem); (case k3_z => with_reducible assumption); (case k4_z => omega)))
  k_with "m ite" => (k_closed; with_reducible (first | refine ite_tt ?_ | refine ite_ff ?_ | refine PySem.W.ite_neg (by decide) ?_ | refine PySem.W.ite_pos (by decide) ?_))
  k_with "m subscriptTail" => (k_here; (with_reducible show wpAny _ _ (subscriptTail _ _ (Value.ref _) (Value.int _ _)) _ _ _); k_dflt (first | (refine' sub_list ?N_z ?m_z ?a_z ?b_z ?x_z ?s_z ?_; (case N_z => k_asm); (case m_z => k_mem); (case a_z => decide); (case b_z => decide); (case x_z => rfl); (case s_z => with_unfolding_all rfl)) | (refine' sub_tup ?N_z ?m_z ?a_z ?b_z ?j_z ?x_z ?s_z ?_; (case N_z => k_asm); (case m_z => k_mem); (case a_z => decide); (case b_z => decide); (case j_z => rfl); (case x_z => rfl); (case s_z => with_unfolding_all rfl))))
  k_with "m subscriptTail Name Call ref int" => (k_here; (with_reducible show wpAny _ _ (subscriptTail _ _ (Value.ref _) (Value.int _ _)) _ _ _); k_dflt (first | (refine' sub_list_any ?N_z ?m_z ?a_z ?b_z ?z_z ?s_z ?_; (case N_z => k_asm); (case m_z => k_mem); (case a_z => omega); (case b_z => first | (simp only [List.length_cons, List.length_nil]; omega) | (simp only [List.length_append, List.length_cons, List.length_nil]; omega) | (simp only [List.length_append]; omega)); (case z_z => first | exact Nat.le_of_ble_eq_true rfl | (simp only [List.length_append, List.length_cons, List.length_nil]; omega) | (simp only [List.length_append]; omega)); (case s_z => with_unfolding_all rfl)) | (refine' sub_tup_any ?N_z ?m_z ?a_z ?b_z ?z_z ?s_z ?_; (case N_z => k_asm); (case m_z => k_mem); (case a_z => omega); (case b_z => first | (simp only [List.length_cons, List.length_nil]; omega) | (simp only [List.length_append, List.length_cons, List.length_nil]; omega) | (simp only [List.length_append]; omega)); (case z_z => first | exact Nat.le_of_ble_eq_true rfl | (simp only [List.length_append, List.length_cons, List.length_nil]; omega) | (simp only [List.length_append]; omega)); (case s_z => with_unfolding_all rfl))); intro _ _)
  k_with "m subscriptTail Tuple" => (k_here; (with_reducible show wpAny _ _ (subscriptTail _ _ (Value.ref _) (Value.int _ _)) _ _ _); k_dflt (first | (refine' sub_list_any ?N_z ?m_z ?a_z ?b_z ?z_z ?s_z ?_; (case N_z => k_asm); (case m_z => k_mem); (case a_z => omega); (case b_z => first | (simp only [List.length_cons, List.length_nil]; omega) | (simp only [List.length_append, List.length_cons, List.length_nil]; omega) | (simp only [List.length_append]; omega)); (case z_z => first | exact Nat.le_of_ble_eq_true rfl | (simp only [List.length_append, List.length_cons, List.length_nil]; omega) | (simp only [List.length_append]; omega)); (case s_z => with_unfolding_all rfl)) | (refine' sub_tup_any ?N_z ?m_z ?a_z ?b_z ?z_z ?s_z ?_; (case N_z => k_asm); (case m_z => k_mem); (case a_z => omega); (case b_z => first | (simp only [List.length_cons, List.length_nil]; omega) | (simp only [List.length_append, List.length_cons, List.length_nil]; omega) | (simp only [List.length_append]; omega)); (case z_z => first | exact Nat.le_of_ble_eq_true rfl | (simp only [List.length_append, List.length_cons, List.length_nil]; omega) | (simp only [List.length_append]; omega)); (case s_z => with_unfolding_all rfl))); intro _ _)
  k_with "m subscriptTail List" => (k_here; (with_reducible show wpAny _ _ (subscriptTail _ _ (Value.ref _) (Value.int _ _)) _ _ _); k_dflt (first | (refine' sub_list_any ?N_z ?m_z ?a_z ?b_z ?z_z ?s_z ?_; (case N_z => k_asm); (case m_z => k_mem); (case a_z => omega); (case b_z => first | (simp only [List.length_cons, List.length_nil]; omega) | (simp only [List.length_append, List.length_cons, List.length_nil]; omega) | (simp only [List.length_append]; omega)); (case z_z => first | exact Nat.le_of_ble_eq_true rfl | (simp only [List.length_append, List.length_cons, List.length_nil]; omega) | (simp only [List.length_append]; omega)); (case s_z => with_unfolding_all rfl)) | (refine' sub_tup_any ?N_z ?m_z ?a_z ?b_z ?z_z ?s_z ?_; (case N_z => k_asm); (case m_z => k_mem); (case a_z => omega); (case b_z => first | (simp only [List.length_cons, List.length_nil]; omega) | (simp only [List.length_append, List.length_cons, List.length_nil]; omega) | (simp only [List.length_append]; omega)); (case z_z => first | exact Nat.le_of_ble_eq_true rfl | (simp only [List.length_append, List.length_cons, List.length_nil]; omega) | (simp only [List.length_append]; omega)); (case s_z => with_unfolding_all rfl))); intro _ _)
  k_with "m execs cons" => (k_here; (with_reducible show wpAny _ _ _ _ _ (Shared.mk _ _ _ (_ + 1) _)); refine gen_toks ?_; intro (tk : Nat))
  trivial
theorem comp_tup0 {prog : Program} {w : World} {A : Around} {E : Value → Shared → Prop} {s₁ : Shared} {h₀ : Heap} {L t : Addr} {m : Str → Option Value} {news : Led} {env : PySem.Env} {elt : PySem.Expr} {x : Str} {ifs : List PySem.Expr} {scope : Scope} {Q : Value → Shared → Prop}
    (hh : A.handled = none) (F : Fr h₀ L s₁.heap m) (N : News h₀ L s₁.heap news) (ht : (t, tupO []) ∈ news)
    (h : ∀ D n h' tk, Fr h₀ L h' m → News h₀ L h' ((D, PySem.W.listOf ([] : List Value).toArray n) :: news) → (∀ q ∈ news, q.1 ≠ D) → Q (.ref D) { s₁ with heap := h', toks := tk }) :
    wpAny (model prog w) A (pyIter (.ref t)) (CompPost prog w A env scope x ifs elt Q) E s₁ := by
  have hT : s₁.heap.IsTuple t ([] : List Value).toArray := ⟨_, (N _ ht).1, rfl, 0, rfl⟩
  have hlt : @LT.lt Nat _ t s₁.heap.objs.size := Heap.lt_size (N _ ht).1
  refine wpAny_pyIter_tuple hT ?_
  have up : ∀ (h' : Heap), (∀ b o', b ∉ [s₁.heap.objs.size] → (s₁.heap.push { cls := .type "tuple_iterator", data := .fields #[.ref t, .int 0 0] }).get? b = some o' → h'.get? b = some o') → ∀ b o', s₁.heap.get? b = some o' → h'.get? b = some o' :=
    fun h' hk b o' e => hk b o' (not_iter_of_old e) (Heap.get?_push_of_some _ e)
  refine ⟨fun _ => true, fun _ _ => True, s₁.heap.objs.size, [s₁.heap.objs.size, t], [s₁.heap.objs.size], ([] : List Value).toArray.size, _, _, rfl, Walks.tuple hh _ t (Nat.ne_of_lt hlt) ([] : List Value).toArray, Nat.zero_le _,
    ⟨⟨_, Heap.get?_push_size _ rfl, rfl, rfl⟩, hT.at fun o e => Heap.get?_push_of_some _ e⟩, ?_, ⟨?_, ?_⟩, ?_⟩
  · intro b hb
    show b < (s₁.heap.push _).objs.size
    rw [Heap.size_push]
    rcases List.mem_cons.mp hb with rfl | hb
    · exact Nat.lt_succ_self _
    · rw [List.mem_singleton.mp hb]; exact Nat.lt_succ_of_lt hlt
  · intro C i v s₃ m₃ E' hP
    exact absurd hP (by simp)
  · intro C i v s₃ m₃ E' hP
    exact absurd hP (by simp)
  · intro D h' tk ys vs' hnew hlD hplD hlen hP hF hk
    have e' : vs' = [] := List.eq_nil_of_length_eq_zero (by simpa using hlen)
    subst e'
    have ey : ys = #[] := by
      have : ys.toList = [] := by
        cases hy : ys.toList with
        | nil => rfl
        | cons a r => rw [hy] at hF; cases hF
      simpa using this
    subst ey
    obtain ⟨n, hn⟩ := hplD
    have F' := F.keeps (up h' hk)
    have hne : ∀ b o, s₁.heap.get? b = some o → b ≠ D := fun b o e z => by rw [z] at e; rw [Heap.get?_push_of_some _ e] at hnew; cases hnew
    refine h D n h' tk F' (fun q hq => ?_) fun q hq => hne q.1 q.2 (N q hq).1
    rcases List.mem_cons.mp hq with rfl | hq
    · refine ⟨hn, ?_, ?_⟩
      · obtain ⟨o, _, _, ho, _⟩ := F.ns
        exact fun z => hne L _ ho z.symm
      · cases e : h₀.get? D with
        | none => rfl
        | some o' => exact absurd rfl (hne D _ (F.keep _ _ e))
    · exact ⟨up h' hk _ _ (N q hq).1, (N q hq).2⟩

def keepF (ns : List Int) (j : Nat) : Bool := decide (j = 0) || decide (ns.getD j 0 ≠ ns.getD (j - 1) 0)
theorem kwcomm27 : True := by
  k_with_none
  k_with "m call builtin:len" => (k_here; (with_reducible show wpAny _ _ (call (Value.builtin "len") [Value.ref _]) _ _ _); k_dflt (refine' len_led ?k1_z ?k2_z ?k3_z ?k4_z ?_; (case k1_z => k_asm); (case k2_z => k_mem); (case k3_z => with_reducible assumption); (case k4_z => omega)))
  k_with "m ite" => (k_closed; with_reducible (first | refine ite_tt ?_ | refine ite_ff ?_ | refine PySem.W.ite_neg (by decide) ?_ | refine PySem.W.ite_pos (by decide) ?_))
  k_with "m subscriptTail" => (k_here; (with_reducible show wpAny _ _ (subscriptTail _ _ (Value.ref _) (Value.int _ _)) _ _ _); k_dflt (first | (refine' sub_list ?N_z ?m_z ?a_z ?b_z ?x_z ?s_z ?_; (case N_z => k_asm); (case m_z => k_mem); (case a_z => decide); (case b_z => decide); (case x_z => rfl); (case s_z => with_unfolding_all rfl)) | (refine' sub_tup ?N_z ?m_z ?a_z ?b_z ?j_z ?x_z ?s_z ?_; (case N_z => k_asm); (case m_z => k_mem); (case a_z => decide); (case b_z => decide); (case j_z => rfl); (case x_z => rfl); (case s_z => with_unfolding_all rfl))))
  k_with "m subscriptTail Name Call ref int" => (k_here; (with_reducible show wpAny _ _ (subscriptTail _ _ (Value.ref _) (Value.int _ _)) _ _ _); k_dflt (first | (refine' sub_list_any ?N_z ?m_z ?a_z ?b_z ?z_z ?s_z ?_; (case N_z => k_asm); (case m_z => k_mem); (case a_z => omega); (case b_z => first | (simp only [List.length_cons, List.length_nil]; omega) | (simp only [List.length_append, List.length_cons, List.length_nil]; omega) | (simp only [List.length_append]; omega)); (case z_z => first | exact Nat.le_of_ble_eq_true rfl | (simp only [List.length_append, List.length_cons, List.length_nil]; omega) | (simp only [List.length_append]; omega)); (case s_z => with_unfolding_all rfl)) | (refine' sub_tup_any ?N_z ?m_z ?a_z ?b_z ?z_z ?s_z ?_; (case N_z => k_asm); (case m_z => k_mem); (case a_z => omega); (case b_z => first | (simp only [List.length_cons, List.length_nil]; omega) | (simp only [List.length_append, List.length_cons, List.length_nil]; omega) | (simp only [List.length_append]; omega)); (case z_z => first | exact Nat.le_of_ble_eq_true rfl | (simp only [List.length_append, List.length_cons, List.length_nil]; omega) | (simp only [List.length_append]; omega)); (case s_z => with_unfolding_all rfl))); intro _ _)
  k_with "m subscriptTail Tuple" => (k_here; (with_reducible show wpAny _ _ (subscriptTail _ _ (Value.ref _) (Value.int _ _)) _ _ _); k_dflt (first | (refine' sub_list_any ?N_z ?m_z ?a_z ?b_z ?z_z ?s_z ?_; (case N_z => k_asm); (case m_z => k_mem); (case a_z => omega); (case b_z => first | (simp only [List.length_cons, List.length_nil]; omega) | (simp only [List.length_append, List.length_cons, List.length_nil]; omega) | (simp only [List.length_append]; omega)); (case z_z => first | exact Nat.le_of_ble_eq_true rfl | (simp only [List.length_append, List.length_cons, List.length_nil]; omega) | (simp only [List.length_append]; omega)); (case s_z => with_unfolding_all rfl)) | (refine' sub_tup_any ?N_z ?m_z ?a_z ?b_z ?z_z ?s_z ?_; (case N_z => k_asm); (case m_z => k_mem); (case a_z => omega); (case b_z => first | (simp only [List.length_cons, List.length_nil]; omega) | (simp only [List.length_append, List.length_cons, List.length_nil]; omega) | (simp only [List.length_append]; omega)); (case z_z => first | exact Nat.le_of_ble_eq_true rfl | (simp only [List.length_append, List.length_cons, List.length_nil]; omega) | (simp only [List.length_append]; omega)); (case s_z => with_unfolding_all rfl))); intro _ _)
  k_with "m subscriptTail List" => (k_here; (with_reducible show wpAny _ _ (subscriptTail _ _ (Value.ref _) (Value.int _ _)) _ _ _); k_dflt (first | (refine' sub_list_any ?N_z ?m_z ?a_z ?b_z ?z_z ?s_z ?_; (case N_z => k_asm); (case m_z => k_mem); (case a_z => omega); (case b_z => first | (simp only [List.length_cons, List.length_nil]; omega) | (simp only [List.length_append, List.length_cons, List.length_nil]; omega) | (simp only [List.length_append]; omega)); (case z_z => first | exact Nat.le_of_ble_eq_true rfl | (simp only [List.length_append, List.length_cons, List.length_nil]; omega) | (simp only [List.length_append]; omega)); (case s_z => with_unfolding_all rfl)) | (refine' sub_tup_any ?N_z ?m_z ?a_z ?b_z ?z_z ?s_z ?_; (case N_z => k_asm); (case m_z => k_mem); (case a_z => omega); (case b_z => first | (simp only [List.length_cons, List.length_nil]; omega) | (simp only [List.length_append, List.length_cons, List.length_nil]; omega) | (simp only [List.length_append]; omega)); (case z_z => first | exact Nat.le_of_ble_eq_true rfl | (simp only [List.length_append, List.length_cons, List.length_nil]; omega) | (simp only [List.length_append]; omega)); (case s_z => with_unfolding_all rfl))); intro _ _)
  k_with "m execs cons" => (k_here; (with_reducible show wpAny _ _ _ _ _ (Shared.mk _ _ _ (_ + 1) _)); refine gen_toks ?_; intro (tk : Nat))
  trivial
theorem keep_t1 {ns : List Int} {j : Nat} (h : (j : Int) = 0) : true = keepF ns j := by
  have : j = 0 := by omega
  simp [keepF, this]
theorem keep_t2 {ns : List Int} {j : Nat} (hj : j < ns.length) (h0 : (j : Int) ≠ 0) (h : ns[j] ≠ ns.getD ((j : Int) - 1).toNat 0) : true = keepF ns j := by
  have e : ((j : Int) - 1).toNat = j - 1 := by omega
  have e2 : ns.getD j 0 = ns[j] := by rw [List.getD_eq_getElem?_getD, List.getElem?_eq_getElem hj]; rfl
  rw [e] at h
  unfold keepF
  rw [e2, decide_eq_true h, Bool.or_true]
theorem keep_f {ns : List Int} {j : Nat} (hj : j < ns.length) (h0 : (j : Int) ≠ 0) (h : ns[j] = ns.getD ((j : Int) - 1).toNat 0) : false = keepF ns j := by
  have e : ((j : Int) - 1).toNat = j - 1 := by omega
  have e2 : ns.getD j 0 = ns[j] := by rw [List.getD_eq_getElem?_getD, List.getElem?_eq_getElem hj]; rfl
  have e3 : ¬ j = 0 := by omega
  rw [e] at h
  unfold keepF
  rw [e2, h]
  simp [e3]
def DedupOf (ns cs : List Int) : Prop := ∃ ss, List.Perm ss ns ∧ ss.Pairwise (· ≤ ·) ∧ cs = pick (keepF ss) 0 ss
theorem ne_ints_led {prog : Program} {w : World} {A : Around} {E : Value → Shared → Prop} {s : Shared} {h₀ : Heap} {L a b : Addr} {news : Led} {vs us : List Value} {n n' : Nat} {ns ms : List Int} {Q : Value → Shared → Prop}
    (N : News h₀ L s.heap news) (ha : (a, PySem.W.listOf vs.toArray n) ∈ news) (hb : (b, PySem.W.listOf us.toArray n') ∈ news) (hi : IntsAre vs ns) (hi' : IntsAre us ms) (hu : A.units + 64 < cLine)
    (h : Q (.bool (!decide (ns = ms))) s) : wpAny (model prog w) A (compareOp .NotEq (.ref a) (.ref b)) Q E s :=
  ne_intsK (PySem.IsL.isList (n := n) (N _ ha).1) hi (PySem.IsL.isList (n := n') (N _ hb).1) hi' hu h
theorem pick_ints (f : Nat → Bool) : ∀ {vs : List Value} {ns : List Int}, IntsAre vs ns → ∀ i, IntsAre (pick f i vs) (pick f i ns)
  | _, _, .nil, _ => .nil
  | _, _, .cons x t h, i => by
    simp only [pick]
    by_cases hf : f i = true
    · rw [if_pos hf, if_pos hf]; exact .cons x t (pick_ints f h (i + 1))
    · rw [if_neg hf, if_neg hf]; exact pick_ints f h (i + 1)

section
theorem kwcomm28 : True := by
  k_with_none
  k_with "m call builtin:len" => (k_here; (with_reducible show wpAny _ _ (call (Value.builtin "len") [Value.ref _]) _ _ _); k_dflt (refine' len_led ?k1_z ?k2_z ?k3_z ?k4_z ?_; (case k1_z => k_asm); (case k2_z => k_mem); (case k3_z => with_reducible assumption); (case k4_z => omega)))
  k_with "m ite" => (k_closed; with_reducible (first | refine ite_tt ?_ | refine ite_ff ?_ | refine PySem.W.ite_neg (by decide) ?_ | refine PySem.W.ite_pos (by decide) ?_))
  k_with "m subscriptTail" => (k_here; (with_reducible show wpAny _ _ (subscriptTail _ _ (Value.ref _) (Value.int _ _)) _ _ _); k_dflt (first | (refine' sub_list ?N_z ?m_z ?a_z ?b_z ?x_z ?s_z ?_; (case N_z => k_asm); (case m_z => k_mem); (case a_z => decide); (case b_z => decide); (case x_z => rfl); (case s_z => with_unfolding_all rfl)) | (refine' sub_tup ?N_z ?m_z ?a_z ?b_z ?j_z ?x_z ?s_z ?_; (case N_z => k_asm); (case m_z => k_mem); (case a_z => decide); (case b_z => decide); (case j_z => rfl); (case x_z => rfl); (case s_z => with_unfolding_all rfl))))
  k_with "m subscriptTail Name Call ref int" => (k_here; (with_reducible show wpAny _ _ (subscriptTail _ _ (Value.ref _) (Value.int _ _)) _ _ _); k_dflt (first | (refine' sub_list_any ?N_z ?m_z ?a_z ?b_z ?z_z ?s_z ?_; (case N_z => k_asm); (case m_z => k_mem); (case a_z => omega); (case b_z => first | (simp only [List.length_cons, List.length_nil]; omega) | (simp only [List.length_append, List.length_cons, List.length_nil]; omega) | (simp only [List.length_append]; omega)); (case z_z => first | exact Nat.le_of_ble_eq_true rfl | (simp only [List.length_append, List.length_cons, List.length_nil]; omega) | (simp only [List.length_append]; omega)); (case s_z => with_unfolding_all rfl)) | (refine' sub_tup_any ?N_z ?m_z ?a_z ?b_z ?z_z ?s_z ?_; (case N_z => k_asm); (case m_z => k_mem); (case a_z => omega); (case b_z => first | (simp only [List.length_cons, List.length_nil]; omega) | (simp only [List.length_append, List.length_cons, List.length_nil]; omega) | (simp only [List.length_append]; omega)); (case z_z => first | exact Nat.le_of_ble_eq_true rfl | (simp only [List.length_append, List.length_cons, List.length_nil]; omega) | (simp only [List.length_append]; omega)); (case s_z => with_unfolding_all rfl))); intro _ _)
  k_with "m subscriptTail Tuple" => (k_here; (with_reducible show wpAny _ _ (subscriptTail _ _ (Value.ref _) (Value.int _ _)) _ _ _); k_dflt (first | (refine' sub_list_any ?N_z ?m_z ?a_z ?b_z ?z_z ?s_z ?_; (case N_z => k_asm); (case m_z => k_mem); (case a_z => omega); (case b_z => first | (simp only [List.length_cons, List.length_nil]; omega) | (simp only [List.length_append, List.length_cons, List.length_nil]; omega) | (simp only [List.length_append]; omega)); (case z_z => first | exact Nat.le_of_ble_eq_true rfl | (simp only [List.length_append, List.length_cons, List.length_nil]; omega) | (simp only [List.length_append]; omega)); (case s_z => with_unfolding_all rfl)) | (refine' sub_tup_any ?N_z ?m_z ?a_z ?b_z ?z_z ?s_z ?_; (case N_z => k_asm); (case m_z => k_mem); (case a_z => omega); (case b_z => first | (simp only [List.length_cons, List.length_nil]; omega) | (simp only [List.length_append, List.length_cons, List.length_nil]; omega) | (simp only [List.length_append]; omega)); (case z_z => first | exact Nat.le_of_ble_eq_true rfl | (simp only [List.length_append, List.length_cons, List.length_nil]; omega) | (simp only [List.length_append]; omega)); (case s_z => with_unfolding_all rfl))); intro _ _)
  k_with "m subscriptTail List" => (k_here; (with_reducible show wpAny _ _ (subscriptTail _ _ (Value.ref _) (Value.int _ _)) _ _ _); k_dflt (first | (refine' sub_list_any ?N_z ?m_z ?a_z ?b_z ?z_z ?s_z ?_; (case N_z => k_asm); (case m_z => k_mem); (case a_z => omega); (case b_z => first | (simp only [List.length_cons, List.length_nil]; omega) | (simp only [List.length_append, List.length_cons, List.length_nil]; omega) | (simp only [List.length_append]; omega)); (case z_z => first | exact Nat.le_of_ble_eq_true rfl | (simp only [List.length_append, List.length_cons, List.length_nil]; omega) | (simp only [List.length_append]; omega)); (case s_z => with_unfolding_all rfl)) | (refine' sub_tup_any ?N_z ?m_z ?a_z ?b_z ?z_z ?s_z ?_; (case N_z => k_asm); (case m_z => k_mem); (case a_z => omega); (case b_z => first | (simp only [List.length_cons, List.length_nil]; omega) | (simp only [List.length_append, List.length_cons, List.length_nil]; omega) | (simp only [List.length_append]; omega)); (case z_z => first | exact Nat.le_of_ble_eq_true rfl | (simp only [List.length_append, List.length_cons, List.length_nil]; omega) | (simp only [List.length_append]; omega)); (case s_z => with_unfolding_all rfl))); intro _ _)
  k_with "m execs cons" => (k_here; (with_reducible show wpAny _ _ _ _ _ (Shared.mk _ _ _ (_ + 1) _)); refine gen_toks ?_; intro (tk : Nat))
  k_with "m pyIter ref" => (k_here; (with_reducible show wpAny _ _ (pyIter (Value.ref _)) (CompPost _ _ _ _ _ _ _ _ _) _ _); k_dflt (refine' comp_tup0 rfl ?F_z ?N_z ?t_z ?_; (case F_z => k_asm); (case N_z => k_asm); (case t_z => k_mem)); intro _ _ _ _ _ _ _; (try k_sweep))
  k_with "m call builtin:dict.pop" => (k_here; k_dflt (refine' pop_led ?N_z ?hp_z ?hd_z ?lo_z ?z_z ?v_z ?_; (case N_z => k_asm); (case hp_z => k_mem); (case hd_z => assumption); (case lo_z => assumption); (case z_z => omega); (case v_z => assumption)))
  k_with "m compareOp NotEq ref ref" => (k_here; (with_reducible show wpAny _ _ (compareOp CmpOp.NotEq (Value.ref _) (Value.ref _)) _ _ _); k_dflt (refine' ne_ints_led ?N_z ?a_z ?b_z ?i_z ?j_z ?u_z ?_; (case N_z => k_asm); (case a_z => k_mem); (case b_z => k_mem); (case i_z => assumption); (case j_z => first | exact .nil | assumption); (case u_z => (first | omega | (simp only [depth_caller, depth_deeper]; decide) | ((have hcL9 := cLine_is); (simp only [units_caller, units_deeper, Around.mark_units]); omega) | ((try simp only [depth_deeper, units_deeper, depth_in1, units_in1]); omega) | fail "room"))))
  k_with "m call type:enumerate" => (k_here; (with_reducible show wpAny _ _ (call (Value.type "enumerate") [Value.ref _]) _ _ _); k_dflt (refine' enum_led ?F_z ?N_z ?m_z ?_; (case F_z => k_asm); (case N_z => k_asm); (case m_z => k_mem)); intro _ _ _ _ _ _ _ _ _ _; refine stop_of ?_)
  k_with "m storeName" => (k_here; k_dflt (refine' cell_led ?F_z ?N_z ?c_z ?U_z ?hne_z ?d_z ?a_z ?b_z ?_; (case a_z => rfl); (case b_z => rfl); (case F_z => k_asm); (case N_z => k_asm); (case c_z => rfl); (case U_z => (repeat (first | exact Pull.here | apply Pull.there | apply Pull.app))); (case d_z => k_asm); (case hne_z => (repeat' (first | assumption | refine List.forall_mem_cons.mpr ⟨?_, ?_⟩ | refine List.forall_mem_append.mpr ⟨?_, ?_⟩ | exact List.forall_mem_nil _ | exact ne_of_all (by assumption) (by k_mem) | exact ne_of_low1 (by assumption) (by k_mem) | exact ne_low_add (by assumption) (by omega) | (refine neN ?_; (try dsimp only); omega))))); intro _ _ _ _ _; (try k_sweep))
  k_with "m call builtin:sorted" => (k_here; (with_reducible show wpAny _ _ (call (Value.builtin "sorted") [Value.ref _]) _ _ _); k_dflt (refine' sorted_led ?F_z ?N_z ?m_z ?i_z ?z_z ?_; (case F_z => k_asm); (case N_z => k_asm); (case m_z => k_mem); (case i_z => assumption); (case z_z => omega)); intro _ _ _ _ _ _ _ _ _ _ _ _; (try k_sweep))
  k_with "m exec Assign cons ListComp" => refine stop_of ?_
  k_with "m setItem ref str" => (k_here; (with_reducible show wpAny _ _ (setItem (Value.ref _) (Value.str _ _) _) _ _ _); k_dflt (refine' set_led ?F_z ?N_z ?U_z ?hne_z ?hd_z ?hz_z ?_; (case F_z => k_asm); (case N_z => k_asm); (case U_z => (repeat (first | exact Pull.here | apply Pull.there | apply Pull.app))); (case hd_z => assumption); (case hne_z => (repeat' (first | assumption | refine List.forall_mem_cons.mpr ⟨?_, ?_⟩ | refine List.forall_mem_append.mpr ⟨?_, ?_⟩ | exact List.forall_mem_nil _ | exact ne_of_abv1 (by assumption) | exact ne_of_abv2 (by assumption) (by k_mem) | exact ne_of_all (by assumption) (by k_mem) | exact ne_of_low1 (by assumption) (by k_mem) | exact ne_of_low (by assumption) (by (repeat' (first | assumption | exact List.forall_mem_nil _ | refine sub_app ?_ ?_ | refine sub_cons ?_ ?_ | k_mem | (intro _ _; k_mem))))))); (case hz_z => omega)); intro _ _ _ _ _; (try k_sweep))
  k_with "m subscriptTail" => (k_here; (with_reducible show wpAny _ _ (subscriptTail _ _ (Value.ref _) (Value.str _ _)) _ _ _); k_dflt (refine' item_led ?N_z ?hp_z ?hd_z ?hl_z ?hs_z ?hg_z ?_; (case N_z => k_asm); (case hp_z => k_mem); (case hd_z => assumption); (case hl_z => assumption); (case hs_z => with_unfolding_all rfl); (case hg_z => intro _; with_unfolding_all rfl)))
  k_with "m exec Assign cons DictComp" => refine stop_of ?_
  k_with "m Exists" => refine stop_of ?_
  k_with "m call type:tuple" => (k_here; (with_reducible show wpAny _ _ (call (Value.type "tuple") [Value.ref _]) _ _ _); k_dflt (refine' tuple_led ?F_z ?N_z ?m_z ?z_z ?_; (case F_z => k_asm); (case N_z => k_asm); (case m_z => k_mem); (case z_z => first | omega | exact Nat.le_of_ble_eq_true rfl | exact Nat.le_trans (List.length_filter_le _ _) (Nat.le_of_ble_eq_true rfl))); intro _ _ _ _ _; (try k_sweep))
  trivial
theorem comm_ct {w : World} {d ln : Addr} {o : Obj} {kvs : List (Str × Value)} {nvs : List Value} {ns : List Int} {n : Nat} {news : Led}
    (hm : (d, o) ∈ news) (hd : o.IsDictOf (PySem.strKind Challenge.rw_sj0179_01.row.prog w) kvs) (lo : (d == sysModules) = false) (hsz : kvs.length ≤ 1000) (hpar : valueAt kvs (Str.ofString "partial") = none)
    (hln : (ln, PySem.W.listOf nvs.toArray n) ∈ news) (hns : IntsAre nvs ns) (hlen : ns.length ≤ 10) :
    Ct w 98 [.ref d, .ref ln] 10 400 news (fun r news' => ∃ tl, news' = tl ++ news ∧ (∀ q ∈ tl, ∀ p ∈ news, @LT.lt Nat _ p.1 q.1) ∧ ∃ D oD kvs', r = .ref D ∧ (D, oD) ∈ tl ∧ (D == sysModules) = false ∧ oD.IsDictOf (PySem.strKind Challenge.rw_sj0179_01.row.prog w) kvs' ∧ (∀ j, j ≠ Str.ofString "communities" → valueAt kvs' j = valueAt kvs j) ∧ ∃ cs, ComIs tl (valueAt kvs' (Str.ofString "communities")) cs ∧ DedupOf ns cs) := by
  unfold Ct
  k_fill
  intro mean mg mb dp un gd cn cs a ccd cl outer A₀ base h₀ L m s Q E B F X N T hk hd' hu hret
  refine wpAny_call ?_
  k_dflt (refine' PySem.W.code_defC ?k1 ?k2 ?k3 ?k4 ?k5 ?kA ?kF ?kK ?k6 ?k7 ?k8 ?k9 ?kB ?kD ?_ ?c2 ?c3 ?c4; (case kA => exact rfl); (case kF => exact rfl); (case kK => first | exact rfl | assumption); (case k1 => k_asm); (case k2 => k_asm); (case k3 => k_asm); (case k4 => k_asm); (case k5 => k_asm); (case k6 => k_is); (case k7 => k_is); (case k8 => (first | omega | (simp only [depth_caller, depth_deeper]; decide) | ((have hcL9 := cLine_is); (simp only [units_caller, units_deeper, Around.mark_units]); omega) | ((try simp only [depth_deeper, units_deeper, depth_in1, units_in1]); omega) | fail "room")); (case k9 => exact BindsTo.of_eq rfl); (case kB => exact rfl); (case kD => decide +kernel); (case c2 => exact rfl); (case c3 => exact rfl); (case c4 => exact rfl); k_whole; intro g' L' h' tk' cells' FG' F' N' Y' B' X' T' l1; k_cells Y'; (try simp only [List.cons_append, List.nil_append] at N'); (try dsimp only); (try k_fold))
  k_steps
  unfold Stop
  rename Fr _ _ _ _ => F'
  rename News _ _ _ _ => N'
  refine assign_dictK F' N' rfl (by with_unfolding_all rfl) rfl (by with_unfolding_all rfl) (by decide) (by with_unfolding_all rfl) (by decide) (by with_unfolding_all rfl) (by with_unfolding_all rfl) (by with_unfolding_all rfl) (by intro _; with_unfolding_all rfl) ?_
  k_steps
  unfold Stop
  refine ⟨_, rfl, by k_asm, by k_asm, .mk (p := fun j => j != Str.ofString "communities") (o := o) (kvs := kvs) (by k_mem) hd lo (by omega) (Top.nolimit (by assumption)) ?tests ?key ?val ?cont⟩
  case tests =>
    intro C j yv key s₂ m₂ E' hv hi hn hx hk
    obtain ⟨tj, rfl⟩ := Value.isStrOf_shape hi
    k_steps
    (exact ⟨_, _, rfl, fun _ _ e => e⟩)
  case key =>
    intro C j yv key s₂ m₂ E' hv hi hp hn hx hk
    k_steps
    (exact ⟨_, _, rfl, fun _ _ e => e⟩)
  case val =>
    intro C j yv key s₂ m₂ E' hv hi hp hn hx hk
    obtain ⟨tj, rfl⟩ := Value.isStrOf_shape hi
    k_steps
    (exact ⟨_, _, rfl, fun _ _ e => e⟩)
  case cont =>
    intro D oD kvs' h2 tk2 F2 N2 low2 lo2 hd2 hv2 hl2
    k_steps
    unfold Stop
    refine wpAny_Assign_Name ?_ (by with_unfolding_all rfl)
    rename Fr _ _ _ _ => F3
    rename News _ _ _ _ => N3
    refine listcomp_enum F3 N3 rfl (by with_unfolding_all rfl) (by decide) (by with_unfolding_all rfl) (by decide) (by with_unfolding_all rfl) (by with_unfolding_all rfl) (by decide) (by intro _; with_unfolding_all rfl) ?_
    k_steps
    unfold Stop
    rename IntsAre _ _ => hI2
    rename List Int => ns2
    rename List Value => vs2
    have hl3 := hI2.length
    refine .mk (s₀ := ⟨_, s.gens, s.drawn, 0, s.os⟩) (f := keepF ns2) rfl (by assumption) (by assumption) (by k_mem) (by assumption) (by assumption) (by assumption) (by assumption) (by assumption) F3 N3 (by omega) ⟨?test, ?item⟩ ?cont2
    case test =>
      intro C j v t s₂ m₂ E' hv hn ha hb hk
      have hj : j < ns2.length := by
        rcases Nat.lt_or_ge j vs2.length with h | h
        · omega
        · rw [List.getElem?_eq_none h] at hv; cases hv
      obtain ⟨tj, hvj⟩ := hI2.get j ns2[j] (List.getElem?_eq_getElem hj)
      rw [hv] at hvj
      cases hvj
      k_steps
      all_goals first
        | (exact ⟨_, _, rfl, fun _ _ e => e⟩)
        | exact keep_t1 (by assumption)
        | exact keep_t2 hj (by assumption) (by assumption)
        | exact keep_f hj (by assumption) (by assumption)
    case item =>
      intro C j v t s₂ m₂ E' hv hf hn ha hb hk
      k_steps
      (exact ⟨_, _, rfl, fun _ _ e => e⟩)
    case cont2 =>
      intro D2 h3 tk3 n3 F4 N4 l4
      have hp2 := pick_ints (keepF ns2) hI2 0
      have hpp : valueAt kvs' (Str.ofString "partial") = none := by rw [hv2, hpar]; simp
      have hlp : (pick (keepF ns2) 0 vs2).length ≤ 10 := Nat.le_trans (pick_length _ _ _) (by omega)
      k_steps
      · rename Fr _ _ _ _ => F5
        rename News _ _ _ _ => N5
        rename List.Perm _ _ => hPe
        rename List.Pairwise _ _ => hPw
        rename (decide (_ = ([] : List Int))) = true => hnil
        refine hret _ ([(D, _)] ++ news) _ _ F5 (newsSub N5 (by (repeat' (first | assumption | exact List.forall_mem_nil _ | refine sub_app ?_ ?_ | refine sub_cons ?_ ?_ | k_mem | (intro _ _; k_mem))))) ⟨_, rfl, ?_, D, _, _, rfl, by k_mem, lo2, hd2, fun j hj => ?_, _, ?_, ns2, hPe, hPw, rfl⟩
        · intro q hq p hp
          rw [List.mem_singleton.mp hq]
          exact low2 p (List.mem_cons_of_mem _ (List.mem_cons_of_mem _ hp))
        · rw [hv2]
          simp [hj]
        · rw [hv2, of_decide_eq_true hnil]
          exact .none
      · rename Fr _ _ _ _ => F5
        rename News _ _ _ _ => N5
        rename Obj.IsDictOf _ _ (stored _ _ _) => hd5
        rename List.Perm _ _ => hPe
        rename List.Pairwise _ _ => hPw
        refine hret _ ([(D, _), (_, tupO (pick (keepF ns2) 0 vs2))] ++ news) _ _ F5 (newsSub N5 (by (repeat' (first | assumption | exact List.forall_mem_nil _ | refine sub_app ?_ ?_ | refine sub_cons ?_ ?_ | k_mem | (intro _ _; k_mem))))) ⟨_, rfl, ?_, D, _, _, rfl, by k_mem, lo2, hd5, fun j hj => ?_, _, ?_, ns2, hPe, hPw, rfl⟩
        · intro q hq p hp
          rcases List.mem_cons.mp hq with rfl | hq
          · exact low2 p (List.mem_cons_of_mem _ (List.mem_cons_of_mem _ hp))
          · rw [List.mem_singleton.mp hq]
            exact lt_of_all (o := p.2) (by assumption) (by k_mem)
        · rw [valueAt_stored, if_neg hj, hv2]
          simp [hj]
        · rw [valueAt_stored, if_pos rfl]
          exact .some (by k_mem) hp2 (by simp_all)
end

section
variable {prog : Program} {w : World} {A : Around} {E : Value → Shared → Prop} {s : Shared} {h₀ : Heap} {L : Addr} {m : Str → Option Value} {env : PySem.Env}
inductive CSL (prog : Program) (w : World) (A : Around) (env : PySem.Env) (scope : Scope) (cl : List (Str × Addr)) (x : Str) (ifs : List PySem.Expr) (elt : PySem.Expr) (l : Addr) (s₁ : Shared)
    (h₀ : Heap) (L : Addr) (m : Str → Option Value) (news : Led) (Q : Value → Shared → Prop) : Prop
  | mk {vs : List Value} {n : Nat} {p : Value → Bool} (F : Fr h₀ L s₁.heap m) (N : News h₀ L s₁.heap news) (hl : (l, PySem.W.listOf vs.toArray n) ∈ news ∨ (l, tupO vs) ∈ news) (hsz : vs.length ≤ 100000)
    (tests : ∀ C v s₂ m₂ E', v ∈ vs → s₂.heap.Ns (compEnvC scope cl C env).locals m₂ → m₂ x = some v → (∀ b o, s₁.heap.get? b = some o → s₂.heap.get? b = some o) →
        wpAny (model prog w) A (forIn ifs true fun c r => if r = true then do let ok ← PySem.isTrue c (compEnvC scope cl C env) (eval c (compEnvC scope cl C env)); pure (ForInStep.yield ok) else pure (ForInStep.yield r))
          (fun ok s₃ => ok = p v ∧ Keeps s₂ s₃) E' s₂)
    (item : ∀ C v s₂ m₂ E', v ∈ vs → p v = true → s₂.heap.Ns (compEnvC scope cl C env).locals m₂ → m₂ x = some v → (∀ b o, s₁.heap.get? b = some o → s₂.heap.get? b = some o) →
        wpAny (model prog w) A (eval elt (compEnvC scope cl C env)) (fun y s₃ => y = v ∧ Keeps s₂ s₃) E' s₂)
    (cont : ∀ D n' h' tk, Fr h₀ L h' m → News h₀ L h' ((D, PySem.W.listOf (vs.filter p).toArray n') :: news) → (∀ q ∈ news, q.1 ≠ D) → Q (.ref D) { s₁ with heap := h', toks := tk }) :
    CSL prog w A env scope cl x ifs elt l s₁ h₀ L m news Q
theorem kwcompself29 : True := by
  k_with_none
  k_with "m call builtin:len" => (k_here; (with_reducible show wpAny _ _ (call (Value.builtin "len") [Value.ref _]) _ _ _); k_dflt (refine' len_led ?k1_z ?k2_z ?k3_z ?k4_z ?_; (case k1_z => k_asm); (case k2_z => k_mem); (case k3_z => with_reducible assumption); (case k4_z => omega)))
  k_with "m ite" => (k_closed; with_reducible (first | refine ite_tt ?_ | refine ite_ff ?_ | refine PySem.W.ite_neg (by decide) ?_ | refine PySem.W.ite_pos (by decide) ?_))
  k_with "m subscriptTail" => (k_here; (with_reducible show wpAny _ _ (subscriptTail _ _ (Value.ref _) (Value.int _ _)) _ _ _); k_dflt (first | (refine' sub_list ?N_z ?m_z ?a_z ?b_z ?x_z ?s_z ?_; (case N_z => k_asm); (case m_z => k_mem); (case a_z => decide); (case b_z => decide); (case x_z => rfl); (case s_z => with_unfolding_all rfl)) | (refine' sub_tup ?N_z ?m_z ?a_z ?b_z ?j_z ?x_z ?s_z ?_; (case N_z => k_asm); (case m_z => k_mem); (case a_z => decide); (case b_z => decide); (case j_z => rfl); (case x_z => rfl); (case s_z => with_unfolding_all rfl))))
  k_with "m subscriptTail Name Call ref int" => (k_here; (with_reducible show wpAny _ _ (subscriptTail _ _ (Value.ref _) (Value.int _ _)) _ _ _); k_dflt (first | (refine' sub_list_any ?N_z ?m_z ?a_z ?b_z ?z_z ?s_z ?_; (case N_z => k_asm); (case m_z => k_mem); (case a_z => omega); (case b_z => first | (simp only [List.length_cons, List.length_nil]; omega) | (simp only [List.length_append, List.length_cons, List.length_nil]; omega) | (simp only [List.length_append]; omega)); (case z_z => first | exact Nat.le_of_ble_eq_true rfl | (simp only [List.length_append, List.length_cons, List.length_nil]; omega) | (simp only [List.length_append]; omega)); (case s_z => with_unfolding_all rfl)) | (refine' sub_tup_any ?N_z ?m_z ?a_z ?b_z ?z_z ?s_z ?_; (case N_z => k_asm); (case m_z => k_mem); (case a_z => omega); (case b_z => first | (simp only [List.length_cons, List.length_nil]; omega) | (simp only [List.length_append, List.length_cons, List.length_nil]; omega) | (simp only [List.length_append]; omega)); (case z_z => first | exact Nat.le_of_ble_eq_true rfl | (simp only [List.length_append, List.length_cons, List.length_nil]; omega) | (simp only [List.length_append]; omega)); (case s_z => with_unfolding_all rfl))); intro _ _)
  k_with "m subscriptTail Tuple" => (k_here; (with_reducible show wpAny _ _ (subscriptTail _ _ (Value.ref _) (Value.int _ _)) _ _ _); k_dflt (first | (refine' sub_list_any ?N_z ?m_z ?a_z ?b_z ?z_z ?s_z ?_; (case N_z => k_asm); (case m_z => k_mem); (case a_z => omega); (case b_z => first | (simp only [List.length_cons, List.length_nil]; omega) | (simp only [List.length_append, List.length_cons, List.length_nil]; omega) | (simp only [List.length_append]; omega)); (case z_z => first | exact Nat.le_of_ble_eq_true rfl | (simp only [List.length_append, List.length_cons, List.length_nil]; omega) | (simp only [List.length_append]; omega)); (case s_z => with_unfolding_all rfl)) | (refine' sub_tup_any ?N_z ?m_z ?a_z ?b_z ?z_z ?s_z ?_; (case N_z => k_asm); (case m_z => k_mem); (case a_z => omega); (case b_z => first | (simp only [List.length_cons, List.length_nil]; omega) | (simp only [List.length_append, List.length_cons, List.length_nil]; omega) | (simp only [List.length_append]; omega)); (case z_z => first | exact Nat.le_of_ble_eq_true rfl | (simp only [List.length_append, List.length_cons, List.length_nil]; omega) | (simp only [List.length_append]; omega)); (case s_z => with_unfolding_all rfl))); intro _ _)
  k_with "m subscriptTail List" => (k_here; (with_reducible show wpAny _ _ (subscriptTail _ _ (Value.ref _) (Value.int _ _)) _ _ _); k_dflt (first | (refine' sub_list_any ?N_z ?m_z ?a_z ?b_z ?z_z ?s_z ?_; (case N_z => k_asm); (case m_z => k_mem); (case a_z => omega); (case b_z => first | (simp only [List.length_cons, List.length_nil]; omega) | (simp only [List.length_append, List.length_cons, List.length_nil]; omega) | (simp only [List.length_append]; omega)); (case z_z => first | exact Nat.le_of_ble_eq_true rfl | (simp only [List.length_append, List.length_cons, List.length_nil]; omega) | (simp only [List.length_append]; omega)); (case s_z => with_unfolding_all rfl)) | (refine' sub_tup_any ?N_z ?m_z ?a_z ?b_z ?z_z ?s_z ?_; (case N_z => k_asm); (case m_z => k_mem); (case a_z => omega); (case b_z => first | (simp only [List.length_cons, List.length_nil]; omega) | (simp only [List.length_append, List.length_cons, List.length_nil]; omega) | (simp only [List.length_append]; omega)); (case z_z => first | exact Nat.le_of_ble_eq_true rfl | (simp only [List.length_append, List.length_cons, List.length_nil]; omega) | (simp only [List.length_append]; omega)); (case s_z => with_unfolding_all rfl))); intro _ _)
  k_with "m execs cons" => (k_here; (with_reducible show wpAny _ _ _ _ _ (Shared.mk _ _ _ (_ + 1) _)); refine gen_toks ?_; intro (tk : Nat))
  trivial
theorem paired_eq {l₁ l₂ : List Value} (h : Paired (fun v y : Value => y = v) l₁ l₂) : l₂ = l₁ := by
  induction h with
  | nil => rfl
  | cons h _ ih => rw [h, ih]
theorem self_core {elt iter : PySem.Expr} {x : Str} {px : Pos} {ifs : List PySem.Expr} {scope : Scope} {cl : List (Str × Addr)} {pos : Pos} {Q : Value → Shared → Prop} {s₁ : Shared} {l : Addr} {vs : List Value} {p : Value → Bool} {io : Obj} {news : Led} {St : Nat → Heap → Prop}
    (W : Walks prog w A s₁.heap.objs.size [s₁.heap.objs.size, l] [s₁.heap.objs.size] vs.toArray.size (fun i v => vs.toArray[i]? = some v) St) (hst : St 0 (s₁.heap.push io)) (hcell : ∀ y ∈ scope.names, y.2 ≠ .cell) (hkind : scope.kind = .function) (hx : scope.names.lookup x = some .local)
    (F : Fr h₀ L s₁.heap m) (N : News h₀ L s₁.heap news) (hlt : @LT.lt Nat _ l s₁.heap.objs.size) (hsz : vs.length ≤ 100000)
    (htests : ∀ C v s₂ m₂ E', v ∈ vs → s₂.heap.Ns (compEnvC scope cl C env).locals m₂ → m₂ x = some v → (∀ b o, s₁.heap.get? b = some o → s₂.heap.get? b = some o) →
        wpAny (model prog w) A (forIn ifs true fun c r => if r = true then do let ok ← PySem.isTrue c (compEnvC scope cl C env) (eval c (compEnvC scope cl C env)); pure (ForInStep.yield ok) else pure (ForInStep.yield r))
          (fun ok s₃ => ok = p v ∧ Keeps s₂ s₃) E' s₂)
    (hitem : ∀ C v s₂ m₂ E', v ∈ vs → p v = true → s₂.heap.Ns (compEnvC scope cl C env).locals m₂ → m₂ x = some v → (∀ b o, s₁.heap.get? b = some o → s₂.heap.get? b = some o) →
        wpAny (model prog w) A (eval elt (compEnvC scope cl C env)) (fun y s₃ => y = v ∧ Keeps s₂ s₃) E' s₂)
    (hQ : ∀ D n' h' tk, Fr h₀ L h' m → News h₀ L h' ((D, PySem.W.listOf (vs.filter p).toArray n') :: news) → (∀ q ∈ news, q.1 ≠ D) → Q (.ref D) { s₁ with heap := h', toks := tk }) :
    wpAny (model prog w) A (newList []) (fun acc s₃ => wpAny (model prog w) A (newFunctionEnv scope env.globals cl [] env.qual none .none (some env)) (fun cenv s₄ =>
      codeAny (model prog w) A (.compStart (.ListComp elt [⟨.Name x px, iter, ifs, 0⟩] scope pos) 0 (.ref s₁.heap.objs.size) acc { cenv with scope := relabel scope env }) (compPost (model prog w) A E none Q acc cenv.locals) s₄) E s₃) E { s₁ with heap := s₁.heap.push io } := by
  have up : ∀ (h' : Heap), (∀ b o', b ∉ [s₁.heap.objs.size] → (s₁.heap.push io).get? b = some o' → h'.get? b = some o') → ∀ b o', s₁.heap.get? b = some o' → h'.get? b = some o' :=
    fun h' hk b o' e => hk b o' (not_iter_of_old e) (Heap.get?_push_of_some _ e)
  refine comp_block_walkC (RR := fun acc C => compPost (model prog w) A E none Q acc C) W (by rw [List.size_toArray, sizeLine_eq]; omega) p (fun v y => y = v) hcell hkind hx hst ?_ ⟨?_, ?_⟩ ?_
  · intro b hb
    show b < (s₁.heap.push _).objs.size
    rw [Heap.size_push]
    rcases List.mem_cons.mp hb with rfl | hb
    · exact Nat.lt_succ_self _
    · rw [List.mem_singleton.mp hb]; exact Nat.lt_succ_of_lt hlt
  · intro C i v s₃ m₃ E' _ hP hn hm hk _
    exact htests C v s₃ m₃ E' (by simpa using Array.mem_of_getElem? hP) hn hm (up _ hk)
  · intro C i v s₃ m₃ E' _ hP hp hn hm hk _
    exact hitem C v s₃ m₃ E' (by simpa using Array.mem_of_getElem? hP) hp hn hm (up _ hk)
  · intro D C h' tk m' ys vs' hnew hC hDC hnC hlD hplD hlen hP hF hk
    have e' : vs' = vs := by simpa using walked_is hlen hP
    subst e'
    refine ⟨m', hnC, fun h₃ hs₃ => ?_⟩
    have ey := paired_eq hF
    have ey' : ys = (vs'.filter p).toArray := by rw [← ey, Array.toArray_toList]
    subst ey'
    obtain ⟨n', hn'⟩ := hplD.extBut hs₃.extBut hDC
    have keep : ∀ b o, s₁.heap.get? b = some o → h₃.get? b = some o := fun b o e =>
      hs₃.extBut b o (by rintro rfl; rw [Heap.get?_push_of_some _ e] at hC; cases hC) (up h' hk b o e)
    have hne : ∀ b o, s₁.heap.get? b = some o → b ≠ D := fun b o e z => by rw [z] at e; rw [Heap.get?_push_of_some _ e] at hnew; cases hnew
    refine hQ D n' h₃ tk (F.keeps keep) (fun q hq => ?_) fun q hq => hne q.1 q.2 (N q hq).1
    rcases List.mem_cons.mp hq with rfl | hq
    · refine ⟨hn', ?_, ?_⟩
      · obtain ⟨o, _, _, ho, _⟩ := F.ns
        exact fun z => hne L _ ho z.symm
      · cases e : h₀.get? D with
        | none => rfl
        | some o' => exact absurd rfl (hne D _ (F.keep _ _ e))
    · exact ⟨keep _ _ (N q hq).1, (N q hq).2⟩
theorem listcomp_self {elt iter : PySem.Expr} {x : Str} {px : Pos} {ifs : List PySem.Expr} {scope : Scope} {cl : List (Str × Addr)} {pos : Pos} {Q : Value → Shared → Prop}
    (_F : Fr h₀ L s.heap m) (hh : A.handled = none) (hclos : closureFor scope env = pure cl) (hcell : ∀ y ∈ scope.names, y.2 ≠ .cell) (hkind : scope.kind = .function)
    (hnames : ∀ y ∈ scope.names, y.2 = .local → scope.names.lookup y.1 = some .local) (hx : scope.names.lookup x = some .local)
    (hs : ∀ x, foldedSetIterable iter env x = pure x)
    (h : wpAny (model prog w) A (eval iter env) (fun xv s₁ => ∃ l news, xv = .ref l ∧ CSL prog w A env scope cl x ifs elt l s₁ h₀ L m news Q) E s) :
    wpAny (model prog w) A (eval (.ListComp elt [⟨.Name x px, iter, ifs, 0⟩] scope pos) env) Q E s := by
  clear _F
  rw [eval_ListComp]
  refine wpAny_comprehension_free (use := none) rfl hs hclos hkind hnames (wpAny_mono h (fun xv s₁ h₁ => ?_) fun _ _ e => e)
  obtain ⟨l, news, rfl, X⟩ := h₁
  obtain ⟨F, N, hl, hsz, htests, hitem, hQ⟩ := X
  rename_i vs n p
  rcases hl with hl | hl
  · have hl' : s₁.heap.IsList l vs.toArray := PySem.IsL.isList (n := n) (N _ hl).1
    have hlt : @LT.lt Nat _ l s₁.heap.objs.size := Heap.lt_size (N _ hl).1
    refine wpAny_pyIter_list hl' ?_
    exact self_core (Walks.list hh s₁.heap.objs.size l (Nat.ne_of_lt hlt) vs.toArray) ⟨⟨_, Heap.get?_push_size _ rfl, rfl, rfl⟩, hl'.push _⟩ hcell hkind hx F N hlt hsz htests hitem hQ
  · have hl' : s₁.heap.IsTuple l vs.toArray := ⟨_, (N _ hl).1, rfl, 0, rfl⟩
    have hlt : @LT.lt Nat _ l s₁.heap.objs.size := Heap.lt_size (N _ hl).1
    refine wpAny_pyIter_tuple hl' ?_
    exact self_core (Walks.tuple hh s₁.heap.objs.size l (Nat.ne_of_lt hlt) vs.toArray) ⟨⟨_, Heap.get?_push_size _ rfl, rfl, rfl⟩, hl'.at fun o e => Heap.get?_push_of_some _ e⟩ hcell hkind hx F N hlt hsz htests hitem hQ
end

def four : List Int := [1, 2, 3, 4]
def Rt.Ok (r : Rt) : Prop := r.com = four.filter (fun x => decide (x ∈ r.com))
theorem kwplain30 : True := by
  k_with_none
  k_with "m call builtin:len" => (k_here; (with_reducible show wpAny _ _ (call (Value.builtin "len") [Value.ref _]) _ _ _); k_dflt (refine' len_led ?k1_z ?k2_z ?k3_z ?k4_z ?_; (case k1_z => k_asm); (case k2_z => k_mem); (case k3_z => with_reducible assumption); (case k4_z => omega)))
  k_with "m ite" => (k_closed; with_reducible (first | refine ite_tt ?_ | refine ite_ff ?_ | refine PySem.W.ite_neg (by decide) ?_ | refine PySem.W.ite_pos (by decide) ?_))
  k_with "m subscriptTail" => (k_here; (with_reducible show wpAny _ _ (subscriptTail _ _ (Value.ref _) (Value.int _ _)) _ _ _); k_dflt (first | (refine' sub_list ?N_z ?m_z ?a_z ?b_z ?x_z ?s_z ?_; (case N_z => k_asm); (case m_z => k_mem); (case a_z => decide); (case b_z => decide); (case x_z => rfl); (case s_z => with_unfolding_all rfl)) | (refine' sub_tup ?N_z ?m_z ?a_z ?b_z ?j_z ?x_z ?s_z ?_; (case N_z => k_asm); (case m_z => k_mem); (case a_z => decide); (case b_z => decide); (case j_z => rfl); (case x_z => rfl); (case s_z => with_unfolding_all rfl))))
  k_with "m subscriptTail Name Call ref int" => (k_here; (with_reducible show wpAny _ _ (subscriptTail _ _ (Value.ref _) (Value.int _ _)) _ _ _); k_dflt (first | (refine' sub_list_any ?N_z ?m_z ?a_z ?b_z ?z_z ?s_z ?_; (case N_z => k_asm); (case m_z => k_mem); (case a_z => omega); (case b_z => first | (simp only [List.length_cons, List.length_nil]; omega) | (simp only [List.length_append, List.length_cons, List.length_nil]; omega) | (simp only [List.length_append]; omega)); (case z_z => first | exact Nat.le_of_ble_eq_true rfl | (simp only [List.length_append, List.length_cons, List.length_nil]; omega) | (simp only [List.length_append]; omega)); (case s_z => with_unfolding_all rfl)) | (refine' sub_tup_any ?N_z ?m_z ?a_z ?b_z ?z_z ?s_z ?_; (case N_z => k_asm); (case m_z => k_mem); (case a_z => omega); (case b_z => first | (simp only [List.length_cons, List.length_nil]; omega) | (simp only [List.length_append, List.length_cons, List.length_nil]; omega) | (simp only [List.length_append]; omega)); (case z_z => first | exact Nat.le_of_ble_eq_true rfl | (simp only [List.length_append, List.length_cons, List.length_nil]; omega) | (simp only [List.length_append]; omega)); (case s_z => with_unfolding_all rfl))); intro _ _)
  k_with "m subscriptTail Tuple" => (k_here; (with_reducible show wpAny _ _ (subscriptTail _ _ (Value.ref _) (Value.int _ _)) _ _ _); k_dflt (first | (refine' sub_list_any ?N_z ?m_z ?a_z ?b_z ?z_z ?s_z ?_; (case N_z => k_asm); (case m_z => k_mem); (case a_z => omega); (case b_z => first | (simp only [List.length_cons, List.length_nil]; omega) | (simp only [List.length_append, List.length_cons, List.length_nil]; omega) | (simp only [List.length_append]; omega)); (case z_z => first | exact Nat.le_of_ble_eq_true rfl | (simp only [List.length_append, List.length_cons, List.length_nil]; omega) | (simp only [List.length_append]; omega)); (case s_z => with_unfolding_all rfl)) | (refine' sub_tup_any ?N_z ?m_z ?a_z ?b_z ?z_z ?s_z ?_; (case N_z => k_asm); (case m_z => k_mem); (case a_z => omega); (case b_z => first | (simp only [List.length_cons, List.length_nil]; omega) | (simp only [List.length_append, List.length_cons, List.length_nil]; omega) | (simp only [List.length_append]; omega)); (case z_z => first | exact Nat.le_of_ble_eq_true rfl | (simp only [List.length_append, List.length_cons, List.length_nil]; omega) | (simp only [List.length_append]; omega)); (case s_z => with_unfolding_all rfl))); intro _ _)
  k_with "m subscriptTail List" => (k_here; (with_reducible show wpAny _ _ (subscriptTail _ _ (Value.ref _) (Value.int _ _)) _ _ _); k_dflt (first | (refine' sub_list_any ?N_z ?m_z ?a_z ?b_z ?z_z ?s_z ?_; (case N_z => k_asm); (case m_z => k_mem); (case a_z => omega); (case b_z => first | (simp only [List.length_cons, List.length_nil]; omega) | (simp only [List.length_append, List.length_cons, List.length_nil]; omega) | (simp only [List.length_append]; omega)); (case z_z => first | exact Nat.le_of_ble_eq_true rfl | (simp only [List.length_append, List.length_cons, List.length_nil]; omega) | (simp only [List.length_append]; omega)); (case s_z => with_unfolding_all rfl)) | (refine' sub_tup_any ?N_z ?m_z ?a_z ?b_z ?z_z ?s_z ?_; (case N_z => k_asm); (case m_z => k_mem); (case a_z => omega); (case b_z => first | (simp only [List.length_cons, List.length_nil]; omega) | (simp only [List.length_append, List.length_cons, List.length_nil]; omega) | (simp only [List.length_append]; omega)); (case z_z => first | exact Nat.le_of_ble_eq_true rfl | (simp only [List.length_append, List.length_cons, List.length_nil]; omega) | (simp only [List.length_append]; omega)); (case s_z => with_unfolding_all rfl))); intro _ _)
  k_with "m execs cons" => (k_here; (with_reducible show wpAny _ _ _ _ _ (Shared.mk _ _ _ (_ + 1) _)); refine gen_toks ?_; intro (tk : Nat))
  trivial
theorem filter_ok (p : Int → Bool) : four.filter p = four.filter (fun x => decide (x ∈ four.filter p)) := by
  refine List.filter_congr fun x hx => ?_
  by_cases h : p x = true
  · rw [h]; exact (decide_eq_true (List.mem_filter.mpr ⟨hx, h⟩)).symm
  · have h' : p x = false := by simpa using h
    rw [h']; exact (decide_eq_false fun q => h (List.mem_filter.mp q).2).symm
theorem ok_ext {a b : List Int} (ha : a = four.filter (fun x => decide (x ∈ a))) (hb : b = four.filter (fun x => decide (x ∈ b))) (h : ∀ x, x ∈ four → (x ∈ a ↔ x ∈ b)) : a = b := by
  rw [ha, hb]
  exact List.filter_congr fun x hx => by simp only [h x hx]
def deed : St → Rt → Rt
  | .med, r => { r with med := some 3 }
  | .lp, r => { r with lp := some 7 }
  | .tag, r => { r with tag := some 5 }
  | .nh, r => { r with nh := some 9 }
  | .add1, r => { r with com := four.filter (fun x => decide (x ∈ r.com) || decide (x = 1)) }
  | .add2, r => { r with com := four.filter (fun x => decide (x ∈ r.com) || decide (x = 2)) }
  | .drop1, r => { r with com := four.filter (fun x => decide (x ∈ r.com) && decide (x ≠ 1)) }
  | .drop3, r => { r with com := four.filter (fun x => decide (x ∈ r.com) && decide (x ≠ 3)) }
  | .clear, r => { r with com := [] }
  | _, r => r
def run1 (e : Cx) : St → Rt → Nat × Rt
  | .acc, r => (1, r)
  | .rej, r => (2, r)
  | .nxt, r => (3, r)
  | .if0 q t, r => if q.ev e then run1 e t r else (0, r)
  | .if1 q t u, r => if q.ev e then run1 e t r else run1 e u r
  | d, r => (0, deed d r)
def runL (e : Cx) : List St → Rt → Nat × Rt
  | [], r => (0, r)
  | s :: ss, r => if (run1 e s r).1 = 0 then runL e ss (run1 e s r).2 else run1 e s r
def runT (e : Cx) (c : Bool) : List (List St) → Rt → Option Rt
  | [], r => if c then some r else none
  | t :: ts, r => if (runL e t r).1 = 1 then some (runL e t r).2 else if (runL e t r).1 = 2 then none else runT e c ts (runL e t r).2

structure Shape (f : Rt → Rt) : Prop where
  org : ∀ r, (f r).org = r.org
  two : ∀ r, (f r).two = r.two
  med : (∀ r, (f r).med = some 3) ∨ ∀ r, (f r).med = r.med
  lp : (∀ r, (f r).lp = some 7) ∨ ∀ r, (f r).lp = r.lp
  tag : (∀ r, (f r).tag = some 5) ∨ ∀ r, (f r).tag = r.tag
  nh : (∀ r, (f r).nh = some 9) ∨ ∀ r, (f r).nh = r.nh
  com : ∀ x ∈ four, (∀ r, x ∈ (f r).com) ∨ (∀ r, x ∉ (f r).com) ∨ ∀ r, (x ∈ (f r).com ↔ x ∈ r.com)
  ok : ∀ r, r.Ok → (f r).Ok
theorem Shape.id : Shape fun r => r := ⟨fun _ => rfl, fun _ => rfl, .inr fun _ => rfl, .inr fun _ => rfl, .inr fun _ => rfl, .inr fun _ => rfl, fun _ _ => .inr (.inr fun _ => Iff.rfl), fun _ h => h⟩
theorem Shape.comp {f g : Rt → Rt} (hf : Shape f) (hg : Shape g) : Shape fun r => g (f r) where
  org r := (hg.org _).trans (hf.org r)
  two r := (hg.two _).trans (hf.two r)
  med := hg.med.elim (fun h => .inl fun r => h _) fun h => hf.med.elim (fun k => .inl fun r => (h _).trans (k r)) fun k => .inr fun r => (h _).trans (k r)
  lp := hg.lp.elim (fun h => .inl fun r => h _) fun h => hf.lp.elim (fun k => .inl fun r => (h _).trans (k r)) fun k => .inr fun r => (h _).trans (k r)
  tag := hg.tag.elim (fun h => .inl fun r => h _) fun h => hf.tag.elim (fun k => .inl fun r => (h _).trans (k r)) fun k => .inr fun r => (h _).trans (k r)
  nh := hg.nh.elim (fun h => .inl fun r => h _) fun h => hf.nh.elim (fun k => .inl fun r => (h _).trans (k r)) fun k => .inr fun r => (h _).trans (k r)
  com x hx := by
    rcases hg.com x hx with h | h | h
    · exact .inl fun r => h _
    · exact .inr (.inl fun r => h _)
    · rcases hf.com x hx with k | k | k
      · exact .inl fun r => (h _).mpr (k r)
      · exact .inr (.inl fun r q => k r ((h _).mp q))
      · exact .inr (.inr fun r => (h _).trans (k r))
  ok r h := hg.ok _ (hf.ok r h)
theorem deed_shape (d : St) : Shape (deed d) := by
  have id' : Shape fun r : Rt => r := Shape.id
  have same : ∀ g : Rt → List Int, (∀ x ∈ four, (∀ r, x ∈ g r) ∨ (∀ r, x ∉ g r) ∨ ∀ r, (x ∈ g r ↔ x ∈ r.com)) → (∀ r, r.Ok → g r = four.filter (fun x => decide (x ∈ g r))) → Shape fun r => { r with com := g r } :=
    fun g h1 h2 => ⟨fun _ => rfl, fun _ => rfl, .inr fun _ => rfl, .inr fun _ => rfl, .inr fun _ => rfl, .inr fun _ => rfl, h1, h2⟩
  cases d with
  | med => exact ⟨fun _ => rfl, fun _ => rfl, .inl fun _ => rfl, .inr fun _ => rfl, .inr fun _ => rfl, .inr fun _ => rfl, fun _ _ => .inr (.inr fun _ => Iff.rfl), fun _ h => h⟩
  | lp => exact ⟨fun _ => rfl, fun _ => rfl, .inr fun _ => rfl, .inl fun _ => rfl, .inr fun _ => rfl, .inr fun _ => rfl, fun _ _ => .inr (.inr fun _ => Iff.rfl), fun _ h => h⟩
  | tag => exact ⟨fun _ => rfl, fun _ => rfl, .inr fun _ => rfl, .inr fun _ => rfl, .inl fun _ => rfl, .inr fun _ => rfl, fun _ _ => .inr (.inr fun _ => Iff.rfl), fun _ h => h⟩
  | nh => exact ⟨fun _ => rfl, fun _ => rfl, .inr fun _ => rfl, .inr fun _ => rfl, .inr fun _ => rfl, .inl fun _ => rfl, fun _ _ => .inr (.inr fun _ => Iff.rfl), fun _ h => h⟩
  | add1 =>
    refine same (fun r => four.filter (fun x => decide (x ∈ r.com) || decide (x = 1))) (fun x hx => ?_) fun r _ => filter_ok _
    by_cases h : x = 1
    · exact .inl fun r => List.mem_filter.mpr ⟨hx, by simp [h]⟩
    · exact .inr (.inr fun r => by rw [List.mem_filter]; simp [h, hx])
  | add2 =>
    refine same (fun r => four.filter (fun x => decide (x ∈ r.com) || decide (x = 2))) (fun x hx => ?_) fun r _ => filter_ok _
    by_cases h : x = 2
    · exact .inl fun r => List.mem_filter.mpr ⟨hx, by simp [h]⟩
    · exact .inr (.inr fun r => by rw [List.mem_filter]; simp [h, hx])
  | drop1 =>
    refine same (fun r => four.filter (fun x => decide (x ∈ r.com) && decide (x ≠ 1))) (fun x hx => ?_) fun r _ => filter_ok _
    by_cases h : x = 1
    · exact .inr (.inl fun r q => by have := (List.mem_filter.mp q).2; simp [h] at this)
    · exact .inr (.inr fun r => by rw [List.mem_filter]; simp [h, hx])
  | drop3 =>
    refine same (fun r => four.filter (fun x => decide (x ∈ r.com) && decide (x ≠ 3))) (fun x hx => ?_) fun r _ => filter_ok _
    by_cases h : x = 3
    · exact .inr (.inl fun r q => by have := (List.mem_filter.mp q).2; simp [h] at this)
    · exact .inr (.inr fun r => by rw [List.mem_filter]; simp [h, hx])
  | clear => exact same (fun _ => []) (fun x _ => .inr (.inl fun r q => nomatch q)) fun r _ => by simp [four]
  | acc => exact id'
  | rej => exact id'
  | nxt => exact id'
  | if0 q t => exact id'
  | if1 q t u => exact id'
theorem run1_shape (e : Cx) (s : St) : ∃ k f, Shape f ∧ ∀ r, run1 e s r = (k, f r) := by
  induction s with
  | if0 q t ih =>
    by_cases h : q.ev e = true
    · obtain ⟨k, f, hf, hr⟩ := ih
      exact ⟨k, f, hf, fun r => by simp only [run1, h, if_true]; exact hr r⟩
    · exact ⟨0, fun r => r, .id, fun r => by simp only [run1, h]; rfl⟩
  | if1 q t u ih ih' =>
    by_cases h : q.ev e = true
    · obtain ⟨k, f, hf, hr⟩ := ih
      exact ⟨k, f, hf, fun r => by simp only [run1, h, if_true]; exact hr r⟩
    · obtain ⟨k, f, hf, hr⟩ := ih'
      exact ⟨k, f, hf, fun r => by simp only [run1, h]; exact hr r⟩
  | acc => exact ⟨1, fun r => r, .id, fun r => rfl⟩
  | rej => exact ⟨2, fun r => r, .id, fun r => rfl⟩
  | nxt => exact ⟨3, fun r => r, .id, fun r => rfl⟩
  | med => exact ⟨0, _, deed_shape .med, fun r => rfl⟩
  | lp => exact ⟨0, _, deed_shape .lp, fun r => rfl⟩
  | tag => exact ⟨0, _, deed_shape .tag, fun r => rfl⟩
  | nh => exact ⟨0, _, deed_shape .nh, fun r => rfl⟩
  | add1 => exact ⟨0, _, deed_shape .add1, fun r => rfl⟩
  | add2 => exact ⟨0, _, deed_shape .add2, fun r => rfl⟩
  | drop1 => exact ⟨0, _, deed_shape .drop1, fun r => rfl⟩
  | drop3 => exact ⟨0, _, deed_shape .drop3, fun r => rfl⟩
  | clear => exact ⟨0, _, deed_shape .clear, fun r => rfl⟩
theorem runL_shape (e : Cx) (ss : List St) : ∃ k f, Shape f ∧ ∀ r, runL e ss r = (k, f r) := by
  induction ss with
  | nil => exact ⟨0, fun r => r, .id, fun r => rfl⟩
  | cons s ss ih =>
    obtain ⟨k, f, hf, hr⟩ := run1_shape e s
    obtain ⟨k', f', hf', hr'⟩ := ih
    by_cases h : k = 0
    · exact ⟨k', fun r => f' (f r), hf.comp hf', fun r => by simp only [runL, hr, h, if_true, hr']⟩
    · exact ⟨k, f, hf, fun r => by simp only [runL, hr, h, if_false]⟩
theorem runT_shape (e : Cx) (c : Bool) (ts : List (List St)) : ∃ (o : Bool) (f : Rt → Rt), Shape f ∧ ∀ r, runT e c ts r = if o then some (f r) else none := by
  induction ts with
  | nil => exact ⟨c, fun r => r, .id, fun r => rfl⟩
  | cons t ts ih =>
    obtain ⟨k, f, hf, hr⟩ := runL_shape e t
    obtain ⟨o, f', hf', hr'⟩ := ih
    by_cases h : k = 1
    · exact ⟨true, f, hf, fun r => by simp only [runT, hr, h, if_true]⟩
    · by_cases h2 : k = 2
      · exact ⟨false, f, hf, fun r => by simp [runT, hr, h2]⟩
      · exact ⟨o, fun r => f' (f r), hf.comp hf', fun r => by simp only [runT, hr, h, h2, if_false, hr']⟩

def plainR (r : Rt) : Rt := { r with med := some 900, lp := some 900, tag := some 900, nh := some 900, com := [] }
def richR (r : Rt) : Rt := { r with med := some 900, lp := some 900, tag := some 900, nh := some 900, com := [1, 2, 3, 4] }
def dueR (a b f : Rt) : Rt := { a with
  med := if b.med = some 900 then a.med else b.med
  lp := if b.lp = some 900 then a.lp else b.lp
  tag := if b.tag = some 900 then a.tag else b.tag
  nh := if b.nh = some 900 then a.nh else b.nh
  com := four.filter (fun x => decide (x ∈ b.com) || (decide (x ∈ a.com) && decide (x ∈ f.com))) }
theorem opt_due {g : Rt → Option Int} {f : Rt → Rt} {v : Int} (h : (∀ r, g (f r) = some v) ∨ ∀ r, g (f r) = g r) (hv : v ≠ 900) (a p : Rt) (hp : g p = some 900) :
    g (f a) = if g (f p) = some 900 then g a else g (f p) := by
  rcases h with h | h
  · rw [h, h, if_neg (by simpa using hv)]
  · rw [h, h, if_pos hp]
theorem rt_ext {a b : Rt} (h1 : a.org = b.org) (h2 : a.two = b.two) (h3 : a.med = b.med) (h4 : a.lp = b.lp) (h5 : a.tag = b.tag) (h6 : a.nh = b.nh) (h7 : a.com = b.com) : a = b := by
  cases a; cases b; simp_all
theorem due_is {f : Rt → Rt} (hf : Shape f) (a b : Rt) (ha : a.Ok) : f a = dueR a (f (plainR b)) (f (richR b)) := by
  refine rt_ext (hf.org a) (hf.two a) (opt_due hf.med (by decide) a _ rfl) (opt_due hf.lp (by decide) a _ rfl) (opt_due hf.tag (by decide) a _ rfl) (opt_due hf.nh (by decide) a _ rfl) ?_
  refine ok_ext (hf.ok a ha) (filter_ok (fun x => decide (x ∈ (f (plainR b)).com) || (decide (x ∈ a.com) && decide (x ∈ (f (richR b)).com)))) fun x hx => ?_
  show x ∈ (f a).com ↔ x ∈ four.filter (fun x => decide (x ∈ (f (plainR b)).com) || (decide (x ∈ a.com) && decide (x ∈ (f (richR b)).com)))
  rw [List.mem_filter]
  have hx4 : x ∈ (richR b).com := hx
  have hx0 : ¬ x ∈ (plainR b).com := fun h => nomatch h
  rcases hf.com x hx with h | h | h
  · simp [h, hx]
  · simp [h, hx]
  · simp [h, hx, hx4, hx0]
theorem again_is {f : Rt → Rt} (hf : Shape f) (a : Rt) (ha : a.Ok) : f (f a) = f a := by
  refine rt_ext (hf.org _) (hf.two _) ?_ ?_ ?_ ?_ ?_
  · rcases hf.med with h | h <;> rw [h]; exact (h a).symm
  · rcases hf.lp with h | h <;> rw [h]; exact (h a).symm
  · rcases hf.tag with h | h <;> rw [h]; exact (h a).symm
  · rcases hf.nh with h | h <;> rw [h]; exact (h a).symm
  · refine ok_ext (hf.ok _ (hf.ok a ha)) (hf.ok a ha) fun x hx => ?_
    rcases hf.com x hx with h | h | h
    · simp [h]
    · simp [h]
    · exact h _
theorem alike {f : Rt → Rt} (hf : Shape f) (b : Rt) : (f (plainR b)).med = (f (richR b)).med ∧ (f (plainR b)).lp = (f (richR b)).lp ∧ (f (plainR b)).tag = (f (richR b)).tag ∧ (f (plainR b)).nh = (f (richR b)).nh := by
  refine ⟨?_, ?_, ?_, ?_⟩
  · rcases hf.med with h | h <;> rw [h, h]; rfl
  · rcases hf.lp with h | h <;> rw [h, h]; rfl
  · rcases hf.tag with h | h <;> rw [h, h]; rfl
  · rcases hf.nh with h | h <;> rw [h, h]; rfl

def dd : Option Int → List Int → List Int
  | _, [] => []
  | o, a :: r => if o = some a then dd (some a) r else a :: dd (some a) r
theorem kwrt31 : True := by
  k_with_none
  k_with "m call builtin:len" => (k_here; (with_reducible show wpAny _ _ (call (Value.builtin "len") [Value.ref _]) _ _ _); k_dflt (refine' len_led ?k1_z ?k2_z ?k3_z ?k4_z ?_; (case k1_z => k_asm); (case k2_z => k_mem); (case k3_z => with_reducible assumption); (case k4_z => omega)))
  k_with "m ite" => (k_closed; with_reducible (first | refine ite_tt ?_ | refine ite_ff ?_ | refine PySem.W.ite_neg (by decide) ?_ | refine PySem.W.ite_pos (by decide) ?_))
  k_with "m subscriptTail" => (k_here; (with_reducible show wpAny _ _ (subscriptTail _ _ (Value.ref _) (Value.int _ _)) _ _ _); k_dflt (first | (refine' sub_list ?N_z ?m_z ?a_z ?b_z ?x_z ?s_z ?_; (case N_z => k_asm); (case m_z => k_mem); (case a_z => decide); (case b_z => decide); (case x_z => rfl); (case s_z => with_unfolding_all rfl)) | (refine' sub_tup ?N_z ?m_z ?a_z ?b_z ?j_z ?x_z ?s_z ?_; (case N_z => k_asm); (case m_z => k_mem); (case a_z => decide); (case b_z => decide); (case j_z => rfl); (case x_z => rfl); (case s_z => with_unfolding_all rfl))))
  k_with "m subscriptTail Name Call ref int" => (k_here; (with_reducible show wpAny _ _ (subscriptTail _ _ (Value.ref _) (Value.int _ _)) _ _ _); k_dflt (first | (refine' sub_list_any ?N_z ?m_z ?a_z ?b_z ?z_z ?s_z ?_; (case N_z => k_asm); (case m_z => k_mem); (case a_z => omega); (case b_z => first | (simp only [List.length_cons, List.length_nil]; omega) | (simp only [List.length_append, List.length_cons, List.length_nil]; omega) | (simp only [List.length_append]; omega)); (case z_z => first | exact Nat.le_of_ble_eq_true rfl | (simp only [List.length_append, List.length_cons, List.length_nil]; omega) | (simp only [List.length_append]; omega)); (case s_z => with_unfolding_all rfl)) | (refine' sub_tup_any ?N_z ?m_z ?a_z ?b_z ?z_z ?s_z ?_; (case N_z => k_asm); (case m_z => k_mem); (case a_z => omega); (case b_z => first | (simp only [List.length_cons, List.length_nil]; omega) | (simp only [List.length_append, List.length_cons, List.length_nil]; omega) | (simp only [List.length_append]; omega)); (case z_z => first | exact Nat.le_of_ble_eq_true rfl | (simp only [List.length_append, List.length_cons, List.length_nil]; omega) | (simp only [List.length_append]; omega)); (case s_z => with_unfolding_all rfl))); intro _ _)
  k_with "m subscriptTail Tuple" => (k_here; (with_reducible show wpAny _ _ (subscriptTail _ _ (Value.ref _) (Value.int _ _)) _ _ _); k_dflt (first | (refine' sub_list_any ?N_z ?m_z ?a_z ?b_z ?z_z ?s_z ?_; (case N_z => k_asm); (case m_z => k_mem); (case a_z => omega); (case b_z => first | (simp only [List.length_cons, List.length_nil]; omega) | (simp only [List.length_append, List.length_cons, List.length_nil]; omega) | (simp only [List.length_append]; omega)); (case z_z => first | exact Nat.le_of_ble_eq_true rfl | (simp only [List.length_append, List.length_cons, List.length_nil]; omega) | (simp only [List.length_append]; omega)); (case s_z => with_unfolding_all rfl)) | (refine' sub_tup_any ?N_z ?m_z ?a_z ?b_z ?z_z ?s_z ?_; (case N_z => k_asm); (case m_z => k_mem); (case a_z => omega); (case b_z => first | (simp only [List.length_cons, List.length_nil]; omega) | (simp only [List.length_append, List.length_cons, List.length_nil]; omega) | (simp only [List.length_append]; omega)); (case z_z => first | exact Nat.le_of_ble_eq_true rfl | (simp only [List.length_append, List.length_cons, List.length_nil]; omega) | (simp only [List.length_append]; omega)); (case s_z => with_unfolding_all rfl))); intro _ _)
  k_with "m subscriptTail List" => (k_here; (with_reducible show wpAny _ _ (subscriptTail _ _ (Value.ref _) (Value.int _ _)) _ _ _); k_dflt (first | (refine' sub_list_any ?N_z ?m_z ?a_z ?b_z ?z_z ?s_z ?_; (case N_z => k_asm); (case m_z => k_mem); (case a_z => omega); (case b_z => first | (simp only [List.length_cons, List.length_nil]; omega) | (simp only [List.length_append, List.length_cons, List.length_nil]; omega) | (simp only [List.length_append]; omega)); (case z_z => first | exact Nat.le_of_ble_eq_true rfl | (simp only [List.length_append, List.length_cons, List.length_nil]; omega) | (simp only [List.length_append]; omega)); (case s_z => with_unfolding_all rfl)) | (refine' sub_tup_any ?N_z ?m_z ?a_z ?b_z ?z_z ?s_z ?_; (case N_z => k_asm); (case m_z => k_mem); (case a_z => omega); (case b_z => first | (simp only [List.length_cons, List.length_nil]; omega) | (simp only [List.length_append, List.length_cons, List.length_nil]; omega) | (simp only [List.length_append]; omega)); (case z_z => first | exact Nat.le_of_ble_eq_true rfl | (simp only [List.length_append, List.length_cons, List.length_nil]; omega) | (simp only [List.length_append]; omega)); (case s_z => with_unfolding_all rfl))); intro _ _)
  k_with "m execs cons" => (k_here; (with_reducible show wpAny _ _ _ _ _ (Shared.mk _ _ _ (_ + 1) _)); refine gen_toks ?_; intro (tk : Nat))
  trivial
theorem pick_dd : ∀ (l pre : List Int), pick (keepF (pre ++ l)) pre.length l = dd pre.getLast? l
  | [], pre => rfl
  | a :: l, pre => by
    have ih := pick_dd l (pre ++ [a])
    rw [List.append_assoc, List.singleton_append, List.length_append, List.length_singleton, List.getLast?_append, List.getLast?_singleton] at ih
    simp only [Option.or] at ih
    have e : keepF (pre ++ a :: l) pre.length = !decide (pre.getLast? = some a) := by
      unfold keepF
      rcases List.eq_nil_or_concat pre with rfl | ⟨pre, b, rfl⟩
      · simp
      · rw [List.concat_eq_append] at ih ⊢
        have h1 : (pre ++ [b] ++ a :: l).getD (pre ++ [b]).length 0 = a := by
          rw [List.getD_eq_getElem?_getD, List.getElem?_append_right (Nat.le_refl _)]; simp
        have h2 : (pre ++ [b] ++ a :: l).getD ((pre ++ [b]).length - 1) 0 = b := by
          rw [List.getD_eq_getElem?_getD]; simp
        rw [h1, h2]
        by_cases h : a = b
        · subst h; simp
        · have h' : ¬ b = a := fun z => h z.symm
          simp [h, h']
    simp only [pick, dd, e]
    by_cases h : pre.getLast? = some a
    · simp only [h, decide_true, Bool.not_true, Bool.false_eq_true, if_false, if_true]
      exact ih
    · simp only [h, decide_false, Bool.not_false, if_true, if_false]
      rw [ih]
theorem dd_mem : ∀ (l : List Int) (o : Option Int), l.Pairwise (· ≤ ·) → (∀ x ∈ l, ∀ y, o = some y → y ≤ x) → ∀ x, (x ∈ dd o l ↔ x ∈ l ∧ o ≠ some x)
  | [], o, _, _, x => by simp [dd]
  | a :: l, o, hp, ho, x => by
    obtain ⟨h1, h2⟩ := List.pairwise_cons.mp hp
    have ih := dd_mem l (some a) h2 (fun x hx y hy => by cases hy; exact h1 x hx) x
    simp only [dd]
    by_cases h : o = some a
    · rw [if_pos h, ih, h]
      constructor
      · rintro ⟨q, r⟩; exact ⟨List.mem_cons_of_mem _ q, r⟩
      · rintro ⟨q, r⟩
        rcases List.mem_cons.mp q with rfl | q
        · exact absurd rfl r
        · exact ⟨q, r⟩
    · rw [if_neg h, List.mem_cons, List.mem_cons, ih]
      constructor
      · rintro (rfl | ⟨q, r⟩)
        · exact ⟨.inl rfl, h⟩
        · refine ⟨.inr q, fun z => ?_⟩
          have h3 := ho a List.mem_cons_self x z
          have h4 := h1 x q
          exact r (by rw [show a = x by omega])
      · rintro ⟨rfl | q, r⟩
        · exact .inl rfl
        · by_cases hxa : x = a
          · exact .inl hxa
          · exact .inr ⟨q, fun z => hxa (Option.some.inj z).symm⟩
theorem dd_lt : ∀ (l : List Int) (o : Option Int), l.Pairwise (· ≤ ·) → (∀ x ∈ l, ∀ y, o = some y → y ≤ x) → (dd o l).Pairwise (· < ·)
  | [], o, _, _ => List.Pairwise.nil
  | a :: l, o, hp, ho => by
    obtain ⟨h1, h2⟩ := List.pairwise_cons.mp hp
    have hq : ∀ x ∈ l, ∀ y, some a = some y → y ≤ x := fun x hx y hy => by cases hy; exact h1 x hx
    have ih := dd_lt l (some a) h2 hq
    simp only [dd]
    by_cases h : o = some a
    · rw [if_pos h]; exact ih
    · rw [if_neg h]
      refine List.pairwise_cons.mpr ⟨fun x hx => ?_, ih⟩
      obtain ⟨h3, h4⟩ := (dd_mem l (some a) h2 hq x).mp hx
      have h5 := h1 x h3
      have h6 : ¬ a = x := fun z => h4 (by rw [z])
      omega
theorem sorted_ext : ∀ {a b : List Int}, a.Pairwise (· < ·) → b.Pairwise (· < ·) → (∀ x, x ∈ a ↔ x ∈ b) → a = b
  | [], [], _, _, _ => rfl
  | [], y :: b, _, _, h => absurd ((h y).mpr List.mem_cons_self) (by simp)
  | x :: a, [], _, _, h => absurd ((h x).mp List.mem_cons_self) (by simp)
  | x :: a, y :: b, ha, hb, h => by
    obtain ⟨a1, a2⟩ := List.pairwise_cons.mp ha
    obtain ⟨b1, b2⟩ := List.pairwise_cons.mp hb
    have hxy : x = y := by
      rcases List.mem_cons.mp ((h x).mp List.mem_cons_self) with e | e
      · exact e
      · rcases List.mem_cons.mp ((h y).mpr List.mem_cons_self) with e' | e'
        · exact e'.symm
        · have := a1 y e'; have := b1 x e; omega
    subst hxy
    rw [sorted_ext a2 b2 fun z => ?_]
    constructor
    · intro hz
      rcases List.mem_cons.mp ((h z).mp (List.mem_cons_of_mem _ hz)) with e | e
      · have := a1 z hz; omega
      · exact e
    · intro hz
      rcases List.mem_cons.mp ((h z).mpr (List.mem_cons_of_mem _ hz)) with e | e
      · have := b1 z hz; omega
      · exact e
theorem dedup_four {ns cs : List Int} (h : DedupOf ns cs) (hn : ∀ x ∈ ns, x ∈ four) : cs = four.filter (fun x => decide (x ∈ ns)) := by
  obtain ⟨ss, hp, hs, rfl⟩ := h
  have e := pick_dd ss []
  simp only [List.nil_append, List.length_nil, List.getLast?_nil] at e
  rw [e]
  have hv : ∀ x ∈ ss, ∀ y, (none : Option Int) = some y → y ≤ x := fun _ _ _ h => nomatch h
  refine sorted_ext (dd_lt ss none hs hv) (List.Pairwise.filter _ (by decide)) fun x => ?_
  rw [dd_mem ss none hs hv x, List.mem_filter, hp.mem_iff]
  constructor
  · rintro ⟨h, _⟩; exact ⟨hn x h, by simpa using h⟩
  · rintro ⟨_, h⟩; exact ⟨by simpa using h, fun z => nomatch z⟩
theorem filter_le_four (p : Int → Bool) : (four.filter p).length ≤ 4 := Nat.le_trans (List.length_filter_le _ _) (by decide)
theorem Rt.Ok.mem {r : Rt} (h : r.Ok) : ∀ x ∈ r.com, x ∈ four := fun x hx => by unfold Rt.Ok at h; rw [h] at hx; exact (List.mem_filter.mp hx).1
theorem Rt.Ok.len {r : Rt} (h : r.Ok) : r.com.length ≤ 4 := by unfold Rt.Ok at h; rw [h]; exact filter_le_four _
theorem nodup_len {α : Type} [DecidableEq α] : ∀ {l l' : List α}, l.Nodup → (∀ x ∈ l, x ∈ l') → l.length ≤ l'.length
  | [], _, _, _ => Nat.zero_le _
  | a :: l, l', hn, hs => by
    obtain ⟨h1, h2⟩ := List.nodup_cons.mp hn
    have ha : a ∈ l' := hs a List.mem_cons_self
    have ih := nodup_len (l' := l'.erase a) h2 fun x hx => (List.mem_erase_of_ne (show x ≠ a from fun z => h1 (by rw [← z]; exact hx))).mpr (hs x (List.mem_cons_of_mem _ hx))
    have e := List.length_erase_of_mem ha
    have := List.length_pos_of_mem ha
    rw [List.length_cons]
    omega
theorem att_len {prog : Program} {w : World} {N : Led} {o : Obj} {kvs : List (Str × Value)} {r : Rt} (hd : o.IsDictOf (PySem.strKind prog w) kvs) (h : AttK N kvs r) : kvs.length ≤ 7 := by
  have hn := dict_nodup hd
  have hs : ∀ k ∈ kvs.map (·.1), k ∈ names7 := fun k hk => by
    obtain ⟨p, hp, rfl⟩ := List.mem_map.mp hk
    exact h.keys p hp
  have := nodup_len hn hs
  simpa [names7] using this

theorem kwrt232 : True := by
  k_with_none
  k_with "m call builtin:len" => (k_here; (with_reducible show wpAny _ _ (call (Value.builtin "len") [Value.ref _]) _ _ _); k_dflt (refine' len_led ?k1_z ?k2_z ?k3_z ?k4_z ?_; (case k1_z => k_asm); (case k2_z => k_mem); (case k3_z => with_reducible assumption); (case k4_z => omega)))
  k_with "m ite" => (k_closed; with_reducible (first | refine ite_tt ?_ | refine ite_ff ?_ | refine PySem.W.ite_neg (by decide) ?_ | refine PySem.W.ite_pos (by decide) ?_))
  k_with "m subscriptTail" => (k_here; (with_reducible show wpAny _ _ (subscriptTail _ _ (Value.ref _) (Value.int _ _)) _ _ _); k_dflt (first | (refine' sub_list ?N_z ?m_z ?a_z ?b_z ?x_z ?s_z ?_; (case N_z => k_asm); (case m_z => k_mem); (case a_z => decide); (case b_z => decide); (case x_z => rfl); (case s_z => with_unfolding_all rfl)) | (refine' sub_tup ?N_z ?m_z ?a_z ?b_z ?j_z ?x_z ?s_z ?_; (case N_z => k_asm); (case m_z => k_mem); (case a_z => decide); (case b_z => decide); (case j_z => rfl); (case x_z => rfl); (case s_z => with_unfolding_all rfl))))
  k_with "m subscriptTail Name Call ref int" => (k_here; (with_reducible show wpAny _ _ (subscriptTail _ _ (Value.ref _) (Value.int _ _)) _ _ _); k_dflt (first | (refine' sub_list_any ?N_z ?m_z ?a_z ?b_z ?z_z ?s_z ?_; (case N_z => k_asm); (case m_z => k_mem); (case a_z => omega); (case b_z => first | (simp only [List.length_cons, List.length_nil]; omega) | (simp only [List.length_append, List.length_cons, List.length_nil]; omega) | (simp only [List.length_append]; omega)); (case z_z => first | exact Nat.le_of_ble_eq_true rfl | (simp only [List.length_append, List.length_cons, List.length_nil]; omega) | (simp only [List.length_append]; omega)); (case s_z => with_unfolding_all rfl)) | (refine' sub_tup_any ?N_z ?m_z ?a_z ?b_z ?z_z ?s_z ?_; (case N_z => k_asm); (case m_z => k_mem); (case a_z => omega); (case b_z => first | (simp only [List.length_cons, List.length_nil]; omega) | (simp only [List.length_append, List.length_cons, List.length_nil]; omega) | (simp only [List.length_append]; omega)); (case z_z => first | exact Nat.le_of_ble_eq_true rfl | (simp only [List.length_append, List.length_cons, List.length_nil]; omega) | (simp only [List.length_append]; omega)); (case s_z => with_unfolding_all rfl))); intro _ _)
  k_with "m subscriptTail Tuple" => (k_here; (with_reducible show wpAny _ _ (subscriptTail _ _ (Value.ref _) (Value.int _ _)) _ _ _); k_dflt (first | (refine' sub_list_any ?N_z ?m_z ?a_z ?b_z ?z_z ?s_z ?_; (case N_z => k_asm); (case m_z => k_mem); (case a_z => omega); (case b_z => first | (simp only [List.length_cons, List.length_nil]; omega) | (simp only [List.length_append, List.length_cons, List.length_nil]; omega) | (simp only [List.length_append]; omega)); (case z_z => first | exact Nat.le_of_ble_eq_true rfl | (simp only [List.length_append, List.length_cons, List.length_nil]; omega) | (simp only [List.length_append]; omega)); (case s_z => with_unfolding_all rfl)) | (refine' sub_tup_any ?N_z ?m_z ?a_z ?b_z ?z_z ?s_z ?_; (case N_z => k_asm); (case m_z => k_mem); (case a_z => omega); (case b_z => first | (simp only [List.length_cons, List.length_nil]; omega) | (simp only [List.length_append, List.length_cons, List.length_nil]; omega) | (simp only [List.length_append]; omega)); (case z_z => first | exact Nat.le_of_ble_eq_true rfl | (simp only [List.length_append, List.length_cons, List.length_nil]; omega) | (simp only [List.length_append]; omega)); (case s_z => with_unfolding_all rfl))); intro _ _)
  k_with "m subscriptTail List" => (k_here; (with_reducible show wpAny _ _ (subscriptTail _ _ (Value.ref _) (Value.int _ _)) _ _ _); k_dflt (first | (refine' sub_list_any ?N_z ?m_z ?a_z ?b_z ?z_z ?s_z ?_; (case N_z => k_asm); (case m_z => k_mem); (case a_z => omega); (case b_z => first | (simp only [List.length_cons, List.length_nil]; omega) | (simp only [List.length_append, List.length_cons, List.length_nil]; omega) | (simp only [List.length_append]; omega)); (case z_z => first | exact Nat.le_of_ble_eq_true rfl | (simp only [List.length_append, List.length_cons, List.length_nil]; omega) | (simp only [List.length_append]; omega)); (case s_z => with_unfolding_all rfl)) | (refine' sub_tup_any ?N_z ?m_z ?a_z ?b_z ?z_z ?s_z ?_; (case N_z => k_asm); (case m_z => k_mem); (case a_z => omega); (case b_z => first | (simp only [List.length_cons, List.length_nil]; omega) | (simp only [List.length_append, List.length_cons, List.length_nil]; omega) | (simp only [List.length_append]; omega)); (case z_z => first | exact Nat.le_of_ble_eq_true rfl | (simp only [List.length_append, List.length_cons, List.length_nil]; omega) | (simp only [List.length_append]; omega)); (case s_z => with_unfolding_all rfl))); intro _ _)
  k_with "m execs cons" => (k_here; (with_reducible show wpAny _ _ _ _ _ (Shared.mk _ _ _ (_ + 1) _)); refine gen_toks ?_; intro (tk : Nat))
  trivial
theorem Ct.post {w : World} {f : Addr} {vs : List Value} {dn cu : Nat} {news : Led} {P P' : Value → Led → Prop} (C : Ct w f vs dn cu news P) (h : ∀ r n, P r n → P' r n) : Ct w f vs dn cu news P' := by
  unfold Ct at C ⊢
  intro mean mg mb dp un gd cn cs a ccd cl outer A₀ base h₀ L m s Q E B F X N T hk hd hu hret
  exact C mean mg mb dp un gd cn cs a ccd cl outer A₀ base h₀ L m s Q E B F X N T hk hd hu fun r news' h' tk' F' N' p => hret r news' h' tk' F' N' (h _ _ p)

def NewR (w : World) (news N₀ : Led) (x : Rt) : Value → Led → Prop := fun r news' => ∃ tl, news' = tl ++ news ∧ (∀ q ∈ tl, ∀ p ∈ news, @LT.lt Nat _ p.1 q.1) ∧ ∃ D, r = .ref D ∧ AttIs w (tl ++ N₀) D x
theorem keys_of {prog : Program} {w : World} {o : Obj} {kvs kvs' : List (Str × Value)} (hd : o.IsDictOf (PySem.strKind prog w) kvs') (hk : ∀ p ∈ kvs, p.1 ∈ names7) (h : ∀ j, j ∉ names7 → valueAt kvs' j = valueAt kvs j) : ∀ p ∈ kvs', p.1 ∈ names7 := by
  intro p hp
  have hv : valueAt kvs' p.1 = some p.2 := valueAt_of_mem (dict_nodup hd) hp
  by_cases hj : p.1 ∈ names7
  · exact hj
  · rw [h _ hj] at hv
    exact absurd (hk _ (valueAt_mem hv)) hj
theorem n_org : Str.ofString "origin" ∈ names7 := by decide +kernel
theorem n_path : Str.ofString "as_path" ∈ names7 := by decide +kernel
theorem n_med : Str.ofString "med" ∈ names7 := by decide +kernel
theorem n_lp : Str.ofString "local_pref" ∈ names7 := by decide +kernel
theorem n_tag : Str.ofString "tag" ∈ names7 := by decide +kernel
theorem n_nh : Str.ofString "next_hop" ∈ names7 := by decide +kernel
theorem n_com : Str.ofString "communities" ∈ names7 := by decide +kernel
theorem n_par : Str.ofString "partial" ∉ names7 := by decide +kernel
theorem no_partial {N : Led} {kvs : List (Str × Value)} {r : Rt} (h : AttK N kvs r) : valueAt kvs (Str.ofString "partial") = none := by
  cases e : valueAt kvs (Str.ofString "partial") with
  | none => rfl
  | some y => exact absurd (h.keys _ (valueAt_mem e)) n_par
inductive SetsTo (r : Rt) (i : Int) : Str → Rt → Prop
  | med : SetsTo r i (Str.ofString "med") { r with med := some i }
  | lp : SetsTo r i (Str.ofString "local_pref") { r with lp := some i }
  | tag : SetsTo r i (Str.ofString "tag") { r with tag := some i }
  | nh : SetsTo r i (Str.ofString "next_hop") { r with nh := some i }
theorem att_set {prog : Program} {w : World} {N : Led} {o : Obj} {kvs kvs' : List (Str × Value)} {r r' : Rt} {i : Int} {k : Str} {t : Tok} (hd : o.IsDictOf (PySem.strKind prog w) kvs') (h : AttK N kvs r) (hs : SetsTo r i k r')
    (hv : ∀ j, valueAt kvs' j = if j = k then some (.int i t) else valueAt kvs j) : AttK N kvs' r' := by
  have hk : k ∈ names7 := by
    cases hs
    · exact n_med
    · exact n_lp
    · exact n_tag
    · exact n_nh
  have hkeys := keys_of hd h.keys fun j hj => by rw [hv, if_neg (show ¬ j = k from fun e => hj (by rw [e]; exact hk))]
  cases hs
  · refine ⟨hkeys, ?_, ?_, ?_, ?_, ?_, ?_, ?_⟩ <;> rw [hv] <;> first
      | (rw [if_pos rfl]; exact .some)
      | (rw [if_neg (by decide +kernel)]; first | exact h.org | exact h.path | exact h.med | exact h.lp | exact h.tag | exact h.nh | exact h.com)
  · refine ⟨hkeys, ?_, ?_, ?_, ?_, ?_, ?_, ?_⟩ <;> rw [hv] <;> first
      | (rw [if_pos rfl]; exact .some)
      | (rw [if_neg (by decide +kernel)]; first | exact h.org | exact h.path | exact h.med | exact h.lp | exact h.tag | exact h.nh | exact h.com)
  · refine ⟨hkeys, ?_, ?_, ?_, ?_, ?_, ?_, ?_⟩ <;> rw [hv] <;> first
      | (rw [if_pos rfl]; exact .some)
      | (rw [if_neg (by decide +kernel)]; first | exact h.org | exact h.path | exact h.med | exact h.lp | exact h.tag | exact h.nh | exact h.com)
  · refine ⟨hkeys, ?_, ?_, ?_, ?_, ?_, ?_, ?_⟩ <;> rw [hv] <;> first
      | (rw [if_pos rfl]; exact .some)
      | (rw [if_neg (by decide +kernel)]; first | exact h.org | exact h.path | exact h.med | exact h.lp | exact h.tag | exact h.nh | exact h.com)
theorem att_com {prog : Program} {w : World} {N : Led} {o : Obj} {kvs kvs' : List (Str × Value)} {r : Rt} {cs : List Int} (hd : o.IsDictOf (PySem.strKind prog w) kvs') (h : AttK N kvs r)
    (hv : ∀ j, j ≠ Str.ofString "communities" → valueAt kvs' j = valueAt kvs j) (hc : ComIs N (valueAt kvs' (Str.ofString "communities")) cs) : AttK N kvs' { r with com := cs } := by
  have hkeys := keys_of hd h.keys fun j hj => hv j (fun e => hj (e ▸ n_com))
  exact ⟨hkeys, by rw [hv _ (by decide +kernel)]; exact h.org, by rw [hv _ (by decide +kernel)]; exact h.path, by rw [hv _ (by decide +kernel)]; exact h.med, by rw [hv _ (by decide +kernel)]; exact h.lp,
    by rw [hv _ (by decide +kernel)]; exact h.tag, by rw [hv _ (by decide +kernel)]; exact h.nh, hc⟩
theorem sub_right {a b : Led} : ∀ p ∈ b, p ∈ a ++ b := fun _ h => List.mem_append_right _ h
theorem sub_left {a b : Led} : ∀ p ∈ a, p ∈ a ++ b := fun _ h => List.mem_append_left _ h

theorem field_at {w : World} {d : Addr} {r r' : Rt} {i : Int} {k : Str} {t ti : Tok} {news N₀ : Led} (ha : AttIs w N₀ d r) (hsub : ∀ p ∈ N₀, p ∈ news) (hs : SetsTo r i k r') :
    Ct w 103 [.ref d, .str k t, .int i ti] 10 100 news (NewR w news N₀ r') := by
  obtain ⟨hm, hd, lo, hk⟩ := ha
  refine (field_ct (hsub _ hm) hd lo (Nat.le_trans (att_len hd hk) (by decide))).post ?_
  rintro x n ⟨tl, e, hlt, D, oD, kvs', hx, hD, loD, hdD, hv⟩
  exact ⟨tl, e, hlt, D, hx, .mk (sub_left _ hD) hdD loD (att_set hdD (hk.mono sub_right) hs hv)⟩
theorem comm_at {w : World} {d ln : Addr} {r : Rt} {nvs : List Value} {ns : List Int} {n : Nat} {news N₀ : Led} (ha : AttIs w N₀ d r) (hsub : ∀ p ∈ N₀, p ∈ news) (hln : (ln, PySem.W.listOf nvs.toArray n) ∈ news) (hns : IntsAre nvs ns) (hlen : ns.length ≤ 10) (h4 : ∀ x ∈ ns, x ∈ four) :
    Ct w 98 [.ref d, .ref ln] 10 400 news (NewR w news N₀ { r with com := four.filter (fun x => decide (x ∈ ns)) }) := by
  obtain ⟨hm, hd, lo, hk⟩ := ha
  refine (comm_ct (hsub _ hm) hd lo (Nat.le_trans (att_len hd hk) (by decide)) (no_partial hk) hln hns hlen).post ?_
  rintro x n ⟨tl, e, hlt, D, oD, kvs', hx, hD, loD, hdD, hv, cs, hc, hdc⟩
  rw [← dedup_four hdc h4]
  exact ⟨tl, e, hlt, D, hx, .mk (sub_left _ hD) hdD loD (att_com hdD (hk.mono sub_right) hv (hc.mono sub_left))⟩

theorem listT_led {prog : Program} {w : World} {A : Around} {E : Value → Shared → Prop} {s : Shared} {h₀ : Heap} {L a : Addr} {m : Str → Option Value} {news : Led} {vs : List Value} {Q : Value → Shared → Prop}
    (F : Fr h₀ L s.heap m) (N : News h₀ L s.heap news) (hm : (a, tupO vs) ∈ news) (hz : vs.length ≤ 100000)
    (h : ∀ D c h', Fr h₀ L h' m → News h₀ L h' ((D, PySem.W.listOf vs.toArray c) :: news) → (∀ p ∈ news, @LT.lt Nat _ p.1 D) → Q (.ref D) { s with heap := h' }) : wpAny (model prog w) A (call (.type "list") [.ref a]) Q E s :=
  kup_listOfT (its2 := vs.toArray) (n2 := 0) F N hm rfl h (by rw [sizeLine_eq]; show vs.length ≤ _; omega)
theorem ints_append {vs us : List Value} {ns ms : List Int} (h : IntsAre vs ns) (k : IntsAre us ms) : IntsAre (vs ++ us) (ns ++ ms) := by
  induction h with
  | nil => exact k
  | cons i t _ ih => exact .cons i t ih
theorem ints_filter {p : Value → Bool} {q : Int → Bool} (hpq : ∀ i t, p (.int i t) = q i) {vs : List Value} {ns : List Int} (h : IntsAre vs ns) : IntsAre (vs.filter p) (ns.filter q) := by
  induction h with
  | nil => exact .nil
  | cons i t _ ih =>
    simp only [List.filter_cons, hpq]
    by_cases hq : q i = true
    · rw [if_pos hq, if_pos hq]; exact .cons i t ih
    · rw [if_neg hq, if_neg hq]; exact ih
theorem ints_mem {vs : List Value} {ns : List Int} (h : IntsAre vs ns) {v : Value} (hv : v ∈ vs) : ∃ i t, v = .int i t ∧ i ∈ ns := by
  induction h with
  | nil => cases hv
  | cons i t _ ih =>
    rcases List.mem_cons.mp hv with rfl | hv
    · exact ⟨i, t, rfl, List.mem_cons_self⟩
    · obtain ⟨i', t', e, hm⟩ := ih hv
      exact ⟨i', t', e, List.mem_cons_of_mem _ hm⟩
def intP (q : Int → Bool) : Value → Bool
  | .int i _ => q i
  | _ => false
theorem com_cases {N : Led} {v : Option Value} {ns : List Int} (h : ComIs N v ns) : (v = none ∧ IntsAre [] ns) ∨ ∃ a vs, v = some (.ref a) ∧ (a, tupO vs) ∈ N ∧ IntsAre vs ns := by
  cases h with
  | none => exact .inl ⟨rfl, .nil⟩
  | some h hi hne => exact .inr ⟨_, _, rfl, h, hi⟩
theorem get_com {w : World} {A : Around} {E : Value → Shared → Prop} {s : Shared} {h₀ : Heap} {L d e : Addr} {news N₀ : Led} {o : Obj} {kvs : List (Str × Value)} {tk : Tok} {r : Rt} {Q : Value → Shared → Prop}
    (N : News h₀ L s.heap news) (hp : (d, o) ∈ news) (hd : o.IsDictOf (PySem.strKind Challenge.rw_sj0179_01.row.prog w) kvs) (lo : (d == sysModules) = false) (hk : AttK N₀ kvs r) (hsub : ∀ p ∈ N₀, p ∈ news) (hl : r.com.length ≤ 4) (he : (e, tupO []) ∈ news)
    (h : ∀ t vs, (t, tupO vs) ∈ news → IntsAre vs r.com → vs.length ≤ 4 → Q (.ref t) { s with toks := s.toks + 1 }) :
    wpAny (model Challenge.rw_sj0179_01.row.prog w) A (call (.builtin "dict.get") [.ref d, .str (Str.ofString "communities") tk, .ref e]) Q E s := by
  rcases com_cases (hk.mono hsub).com with ⟨hv, hi⟩ | ⟨t, vs, hv, hm, hi⟩
  · exact kdg_get2 (knd := PySem.strKind _ _) N hp hd lo (strKind_is _ _ _ _) _ hv (h e [] he hi (Nat.zero_le _))
  · exact kdg_get2 (knd := PySem.strKind _ _) N hp hd lo (strKind_is _ _ _ _) _ hv (h t vs hm hi (by have := hi.length; omega))
theorem lt_sub {tl news news' : Led} (h : ∀ q ∈ tl, ∀ p ∈ news', @LT.lt Nat _ p.1 q.1) (s : ∀ p ∈ news, p ∈ news') : ∀ q ∈ tl, ∀ p ∈ news, @LT.lt Nat _ p.1 q.1 := fun q hq p hp => h q hq p (s p hp)
theorem sub_tr {a b c : Led} (h : ∀ p ∈ a, p ∈ b) (k : ∀ p ∈ b, p ∈ c) : ∀ p ∈ a, p ∈ c := fun p hp => k p (h p hp)
theorem add_conv {ns : List Int} {k : Int} : four.filter (fun x => decide (x ∈ ns ++ [k])) = four.filter (fun x => decide (x ∈ ns) || decide (x = k)) := by
  refine List.filter_congr fun x _ => ?_
  simp only [List.mem_append, List.mem_singleton, Bool.decide_or]
theorem drop_conv {ns : List Int} {k : Int} : four.filter (fun x => decide (x ∈ ns.filter (fun x => decide (x ≠ k)))) = four.filter (fun x => decide (x ∈ ns) && decide (x ≠ k)) := by
  refine List.filter_congr fun x _ => ?_
  simp only [List.mem_filter, Bool.decide_and, decide_eq_true_eq]

section
theorem kwchg33 : True := by
  k_with_none
  k_with "m call builtin:len" => (k_here; (with_reducible show wpAny _ _ (call (Value.builtin "len") [Value.ref _]) _ _ _); k_dflt (refine' len_led ?k1_z ?k2_z ?k3_z ?k4_z ?_; (case k1_z => k_asm); (case k2_z => k_mem); (case k3_z => with_reducible assumption); (case k4_z => omega)))
  k_with "m ite" => (k_closed; with_reducible (first | refine ite_tt ?_ | refine ite_ff ?_ | refine PySem.W.ite_neg (by decide) ?_ | refine PySem.W.ite_pos (by decide) ?_))
  k_with "m subscriptTail" => (k_here; (with_reducible show wpAny _ _ (subscriptTail _ _ (Value.ref _) (Value.int _ _)) _ _ _); k_dflt (first | (refine' sub_list ?N_z ?m_z ?a_z ?b_z ?x_z ?s_z ?_; (case N_z => k_asm); (case m_z => k_mem); (case a_z => decide); (case b_z => decide); (case x_z => rfl); (case s_z => with_unfolding_all rfl)) | (refine' sub_tup ?N_z ?m_z ?a_z ?b_z ?j_z ?x_z ?s_z ?_; (case N_z => k_asm); (case m_z => k_mem); (case a_z => decide); (case b_z => decide); (case j_z => rfl); (case x_z => rfl); (case s_z => with_unfolding_all rfl))))
  k_with "m subscriptTail Name Call ref int" => (k_here; (with_reducible show wpAny _ _ (subscriptTail _ _ (Value.ref _) (Value.int _ _)) _ _ _); k_dflt (first | (refine' sub_list_any ?N_z ?m_z ?a_z ?b_z ?z_z ?s_z ?_; (case N_z => k_asm); (case m_z => k_mem); (case a_z => omega); (case b_z => first | (simp only [List.length_cons, List.length_nil]; omega) | (simp only [List.length_append, List.length_cons, List.length_nil]; omega) | (simp only [List.length_append]; omega)); (case z_z => first | exact Nat.le_of_ble_eq_true rfl | (simp only [List.length_append, List.length_cons, List.length_nil]; omega) | (simp only [List.length_append]; omega)); (case s_z => with_unfolding_all rfl)) | (refine' sub_tup_any ?N_z ?m_z ?a_z ?b_z ?z_z ?s_z ?_; (case N_z => k_asm); (case m_z => k_mem); (case a_z => omega); (case b_z => first | (simp only [List.length_cons, List.length_nil]; omega) | (simp only [List.length_append, List.length_cons, List.length_nil]; omega) | (simp only [List.length_append]; omega)); (case z_z => first | exact Nat.le_of_ble_eq_true rfl | (simp only [List.length_append, List.length_cons, List.length_nil]; omega) | (simp only [List.length_append]; omega)); (case s_z => with_unfolding_all rfl))); intro _ _)
  k_with "m subscriptTail Tuple" => (k_here; (with_reducible show wpAny _ _ (subscriptTail _ _ (Value.ref _) (Value.int _ _)) _ _ _); k_dflt (first | (refine' sub_list_any ?N_z ?m_z ?a_z ?b_z ?z_z ?s_z ?_; (case N_z => k_asm); (case m_z => k_mem); (case a_z => omega); (case b_z => first | (simp only [List.length_cons, List.length_nil]; omega) | (simp only [List.length_append, List.length_cons, List.length_nil]; omega) | (simp only [List.length_append]; omega)); (case z_z => first | exact Nat.le_of_ble_eq_true rfl | (simp only [List.length_append, List.length_cons, List.length_nil]; omega) | (simp only [List.length_append]; omega)); (case s_z => with_unfolding_all rfl)) | (refine' sub_tup_any ?N_z ?m_z ?a_z ?b_z ?z_z ?s_z ?_; (case N_z => k_asm); (case m_z => k_mem); (case a_z => omega); (case b_z => first | (simp only [List.length_cons, List.length_nil]; omega) | (simp only [List.length_append, List.length_cons, List.length_nil]; omega) | (simp only [List.length_append]; omega)); (case z_z => first | exact Nat.le_of_ble_eq_true rfl | (simp only [List.length_append, List.length_cons, List.length_nil]; omega) | (simp only [List.length_append]; omega)); (case s_z => with_unfolding_all rfl))); intro _ _)
  k_with "m subscriptTail List" => (k_here; (with_reducible show wpAny _ _ (subscriptTail _ _ (Value.ref _) (Value.int _ _)) _ _ _); k_dflt (first | (refine' sub_list_any ?N_z ?m_z ?a_z ?b_z ?z_z ?s_z ?_; (case N_z => k_asm); (case m_z => k_mem); (case a_z => omega); (case b_z => first | (simp only [List.length_cons, List.length_nil]; omega) | (simp only [List.length_append, List.length_cons, List.length_nil]; omega) | (simp only [List.length_append]; omega)); (case z_z => first | exact Nat.le_of_ble_eq_true rfl | (simp only [List.length_append, List.length_cons, List.length_nil]; omega) | (simp only [List.length_append]; omega)); (case s_z => with_unfolding_all rfl)) | (refine' sub_tup_any ?N_z ?m_z ?a_z ?b_z ?z_z ?s_z ?_; (case N_z => k_asm); (case m_z => k_mem); (case a_z => omega); (case b_z => first | (simp only [List.length_cons, List.length_nil]; omega) | (simp only [List.length_append, List.length_cons, List.length_nil]; omega) | (simp only [List.length_append]; omega)); (case z_z => first | exact Nat.le_of_ble_eq_true rfl | (simp only [List.length_append, List.length_cons, List.length_nil]; omega) | (simp only [List.length_append]; omega)); (case s_z => with_unfolding_all rfl))); intro _ _)
  k_with "m execs cons" => (k_here; (with_reducible show wpAny _ _ _ _ _ (Shared.mk _ _ _ (_ + 1) _)); refine gen_toks ?_; intro (tk : Nat))
  k_with "m getMethod ref" => (k_here; (with_reducible show wpAny _ _ (getMethod (Value.ref _) (Str.ofString "get") _) _ _ _); k_dflt (refine' kdg_method (knd := PySem.strKind _ _) ?N_z ?hp_z ?hd_z ?_; (case N_z => k_asm); (case hp_z => k_mem); (case hd_z => assumption)))
  k_with "m call builtin:dict.get" => (k_here; k_dflt (refine' kdg_get2 (knd := PySem.strKind _ _) ?N_z ?hp_z ?hd_z ?lo_z (strKind_is _ _ _ _) _ ?hl_z ?_; (case N_z => k_asm); (case hp_z => k_mem); (case hd_z => assumption); (case lo_z => assumption); (case hl_z => assumption)); (try dsimp only [Option.getD]))
  k_with "m subscriptTail" => (k_here; (with_reducible show wpAny _ _ (subscriptTail _ _ (Value.ref _) (Value.str _ _)) _ _ _); k_dflt (refine' item_led ?N_z ?hp_z ?hd_z ?hl_z ?hs_z ?hg_z ?_; (case N_z => k_asm); (case hp_z => k_mem); (case hd_z => assumption); (case hl_z => assumption); (case hs_z => with_unfolding_all rfl); (case hg_z => intro _; with_unfolding_all rfl)))
  k_with "m call type:list" => (k_here; (with_reducible show wpAny _ _ (call (Value.type "list") [Value.ref _]) _ _ _); k_dflt (refine' listT_led ?F_z ?N_z ?m_z ?z_z ?_; (case F_z => k_asm); (case N_z => k_asm); (case m_z => k_mem); (case z_z => first | omega | exact Nat.le_of_ble_eq_true rfl)); intro _ _ _ _ _ _; (try k_sweep))
  k_with "m binaryOp Add ref ref" => (k_here; (with_reducible show wpAny _ _ (binaryOp _ (Value.ref _) (Value.ref _)) _ _ _); k_dflt (refine' add_led ?F_z ?N_z ?a_z ?b_z ?z_z ?_; (case F_z => k_asm); (case N_z => k_asm); (case a_z => k_mem); (case b_z => k_mem); (case z_z => first | omega | (simp only [List.length_cons, List.length_nil]; omega))); intro _ _ _ _ _; (try k_sweep))
  k_with "m eval ListComp" => refine stop_of ?_
  k_with "m call ref" => (k_here; (with_reducible show wpAny _ _ (call (Value.ref 98) _) _ _ _); first | (k_dflt (refine' ct_use (comm_at ?ha_z ?hsub_z ?hl_z ?hi_z ?hz_z ?h4_z) ?B_z ?F_z ?X_z ?N_z ?T_z ?hk_z ?hd_z ?hu_z ?_; (case N_z => k_asm); (case B_z => k_asm); (case F_z => k_asm); (case X_z => k_asm); (case T_z => k_asm); (case hk_z => first | exact rfl | assumption); (case hd_z => (first | omega | (simp only [depth_caller, depth_deeper]; decide) | ((have hcL9 := cLine_is); (simp only [units_caller, units_deeper, Around.mark_units]); omega) | ((try simp only [depth_deeper, units_deeper, depth_in1, units_in1]); omega) | fail "room")); (case hu_z => (first | omega | (simp only [depth_caller, depth_deeper]; decide) | ((have hcL9 := cLine_is); (simp only [units_caller, units_deeper, Around.mark_units]); omega) | ((try simp only [depth_deeper, units_deeper, depth_in1, units_in1]); omega) | fail "room")); (case hl_z => k_mem); (case ha_z => assumption); (case hsub_z => (first | ((repeat' (first | assumption | exact List.forall_mem_nil _ | refine sub_app ?_ ?_ | refine sub_cons ?_ ?_ | k_mem | (intro _ _; k_mem))); done) | exact sub_tr (by assumption) (by (repeat' (first | assumption | exact List.forall_mem_nil _ | refine sub_app ?_ ?_ | refine sub_cons ?_ ?_ | k_mem | (intro _ _; k_mem)))))); (case hi_z => (first | assumption | exact ints_append (by assumption) (.cons _ _ .nil) | exact .nil | exact ints_append .nil (.cons _ _ .nil))); (case hz_z => (first | omega | (simp only [List.length_append, List.length_cons, List.length_nil]; omega))); (case h4_z => (first | assumption | (intro x9 hx9; exact absurd hx9 List.not_mem_nil) | (intro x9 hx9; rcases List.mem_append.mp hx9 with hx9 | hx9 <;> first | exact Rt.Ok.mem (by assumption) _ hx9 | (rw [List.mem_singleton.mp hx9]; first | assumption | decide)))); intro _ _ _ _ _ _ P9; obtain ⟨_, en9, _, _, eD9, _⟩ := P9; subst en9; subst eD9; (try dsimp only))) | refine stop_of ?_)
  k_with "m call ref" => (k_here; (with_reducible show wpAny _ _ (call (Value.ref 103) _) _ _ _); first | (k_dflt (refine' ct_use (field_at ?ha_z ?hsub_z ?hs_z) ?B_z ?F_z ?X_z ?N_z ?T_z ?hk_z ?hd_z ?hu_z ?_; (case N_z => k_asm); (case B_z => k_asm); (case F_z => k_asm); (case X_z => k_asm); (case T_z => k_asm); (case hk_z => first | exact rfl | assumption); (case hd_z => (first | omega | (simp only [depth_caller, depth_deeper]; decide) | ((have hcL9 := cLine_is); (simp only [units_caller, units_deeper, Around.mark_units]); omega) | ((try simp only [depth_deeper, units_deeper, depth_in1, units_in1]); omega) | fail "room")); (case hu_z => (first | omega | (simp only [depth_caller, depth_deeper]; decide) | ((have hcL9 := cLine_is); (simp only [units_caller, units_deeper, Around.mark_units]); omega) | ((try simp only [depth_deeper, units_deeper, depth_in1, units_in1]); omega) | fail "room")); (case ha_z => assumption); (case hsub_z => (first | ((repeat' (first | assumption | exact List.forall_mem_nil _ | refine sub_app ?_ ?_ | refine sub_cons ?_ ?_ | k_mem | (intro _ _; k_mem))); done) | exact sub_tr (by assumption) (by (repeat' (first | assumption | exact List.forall_mem_nil _ | refine sub_app ?_ ?_ | refine sub_cons ?_ ?_ | k_mem | (intro _ _; k_mem)))))); (case hs_z => first | exact .med | exact .lp | exact .tag | exact .nh); intro _ _ _ _ _ _ P9; obtain ⟨_, en9, _, _, eD9, _⟩ := P9; subst en9; subst eD9; (try dsimp only))) | refine stop_of ?_)
  k_with "m call builtin:dict.get" => (k_here; (show wpAny _ _ (call (Value.builtin "dict.get") [Value.ref _, Value.str (Str.ofString "communities") _, Value.ref _]) _ _ _); k_dflt (refine' get_com ?N_z ?hp_z ?hd_z ?lo_z ?hk_z ?hsub_z ?hl_z ?he_z ?_; (case N_z => k_asm); (case hp_z => k_mem); (case hd_z => assumption); (case lo_z => assumption); (case hk_z => assumption); (case hsub_z => (first | ((repeat' (first | assumption | exact List.forall_mem_nil _ | refine sub_app ?_ ?_ | refine sub_cons ?_ ?_ | k_mem | (intro _ _; k_mem))); done) | exact sub_tr (by assumption) (by (repeat' (first | assumption | exact List.forall_mem_nil _ | refine sub_app ?_ ?_ | refine sub_cons ?_ ?_ | k_mem | (intro _ _; k_mem)))))); (case hl_z => assumption); (case he_z => k_mem)); intro _ _ _ _ _)
  k_with "m Exists" => refine stop_of ?_
  trivial
theorem chg_med {w : World} {v : Value} {at' fa : Addr} {r : Rt} {i : Int} {news N₀ : Led} (hs : StIs news v .med) (ha : AttIs w N₀ at' r) (hsub : ∀ p ∈ N₀, p ∈ news) (hok : r.Ok) (hf : FactsIs w news fa i) : Ct w 108 [v, .ref at', .ref fa] 30 700 news (NewR w news N₀ (deed .med r)) := by
  unfold Ct
  k_fill
  intro mean mg mb dp un gd cn cs a ccd cl outer A₀ base h₀ L m s Q E B F X N T hk hd hu hret
  have hl4 := hok.len
  have ha' := ha
  obtain ⟨hm, hd', lo, hk'⟩ := ha
  obtain ⟨hm2, hd2, lo2, hf1, hf2⟩ := hf
  replace hm := hsub _ hm
  cases hs
  refine wpAny_call ?_
  k_dflt (refine' PySem.W.code_defC ?k1 ?k2 ?k3 ?k4 ?k5 ?kA ?kF ?kK ?k6 ?k7 ?k8 ?k9 ?kB ?kD ?_ ?c2 ?c3 ?c4; (case kA => exact rfl); (case kF => exact rfl); (case kK => first | exact rfl | assumption); (case k1 => k_asm); (case k2 => k_asm); (case k3 => k_asm); (case k4 => k_asm); (case k5 => k_asm); (case k6 => k_is); (case k7 => k_is); (case k8 => (first | omega | (simp only [depth_caller, depth_deeper]; decide) | ((have hcL9 := cLine_is); (simp only [units_caller, units_deeper, Around.mark_units]); omega) | ((try simp only [depth_deeper, units_deeper, depth_in1, units_in1]); omega) | fail "room")); (case k9 => exact BindsTo.of_eq rfl); (case kB => exact rfl); (case kD => decide +kernel); (case c2 => exact rfl); (case c3 => exact rfl); (case c4 => exact rfl); k_whole; intro g' L' h' tk' cells' FG' F' N' Y' B' X' T' l1; k_cells Y'; (try simp only [List.cons_append, List.nil_append] at N'); (try dsimp only); (try k_fold))
  k_steps
  ((rename Fr _ _ _ _ => F5); (rename News _ _ _ _ => N5); (rename AttIs _ (_ ++ _) _ _ => hA5); (first | rw [add_conv] at hA5 | rw [drop_conv] at hA5 | skip); exact hret _ (_ ++ news) _ _ F5 (newsSub N5 (by (repeat' (first | assumption | exact List.forall_mem_nil _ | refine sub_app ?_ ?_ | refine sub_cons ?_ ?_ | k_mem | (intro _ _; k_mem))))) ⟨_, rfl, lt_sub (by assumption) (by (repeat' (first | assumption | exact List.forall_mem_nil _ | refine sub_app ?_ ?_ | refine sub_cons ?_ ?_ | k_mem | (intro _ _; k_mem)))), _, rfl, hA5⟩)
theorem chg_lp {w : World} {v : Value} {at' fa : Addr} {r : Rt} {i : Int} {news N₀ : Led} (hs : StIs news v .lp) (ha : AttIs w N₀ at' r) (hsub : ∀ p ∈ N₀, p ∈ news) (hok : r.Ok) (hf : FactsIs w news fa i) : Ct w 108 [v, .ref at', .ref fa] 30 700 news (NewR w news N₀ (deed .lp r)) := by
  unfold Ct
  k_fill
  intro mean mg mb dp un gd cn cs a ccd cl outer A₀ base h₀ L m s Q E B F X N T hk hd hu hret
  have hl4 := hok.len
  have ha' := ha
  obtain ⟨hm, hd', lo, hk'⟩ := ha
  obtain ⟨hm2, hd2, lo2, hf1, hf2⟩ := hf
  replace hm := hsub _ hm
  cases hs
  refine wpAny_call ?_
  k_dflt (refine' PySem.W.code_defC ?k1 ?k2 ?k3 ?k4 ?k5 ?kA ?kF ?kK ?k6 ?k7 ?k8 ?k9 ?kB ?kD ?_ ?c2 ?c3 ?c4; (case kA => exact rfl); (case kF => exact rfl); (case kK => first | exact rfl | assumption); (case k1 => k_asm); (case k2 => k_asm); (case k3 => k_asm); (case k4 => k_asm); (case k5 => k_asm); (case k6 => k_is); (case k7 => k_is); (case k8 => (first | omega | (simp only [depth_caller, depth_deeper]; decide) | ((have hcL9 := cLine_is); (simp only [units_caller, units_deeper, Around.mark_units]); omega) | ((try simp only [depth_deeper, units_deeper, depth_in1, units_in1]); omega) | fail "room")); (case k9 => exact BindsTo.of_eq rfl); (case kB => exact rfl); (case kD => decide +kernel); (case c2 => exact rfl); (case c3 => exact rfl); (case c4 => exact rfl); k_whole; intro g' L' h' tk' cells' FG' F' N' Y' B' X' T' l1; k_cells Y'; (try simp only [List.cons_append, List.nil_append] at N'); (try dsimp only); (try k_fold))
  k_steps
  ((rename Fr _ _ _ _ => F5); (rename News _ _ _ _ => N5); (rename AttIs _ (_ ++ _) _ _ => hA5); (first | rw [add_conv] at hA5 | rw [drop_conv] at hA5 | skip); exact hret _ (_ ++ news) _ _ F5 (newsSub N5 (by (repeat' (first | assumption | exact List.forall_mem_nil _ | refine sub_app ?_ ?_ | refine sub_cons ?_ ?_ | k_mem | (intro _ _; k_mem))))) ⟨_, rfl, lt_sub (by assumption) (by (repeat' (first | assumption | exact List.forall_mem_nil _ | refine sub_app ?_ ?_ | refine sub_cons ?_ ?_ | k_mem | (intro _ _; k_mem)))), _, rfl, hA5⟩)
theorem chg_tag {w : World} {v : Value} {at' fa : Addr} {r : Rt} {i : Int} {news N₀ : Led} (hs : StIs news v .tag) (ha : AttIs w N₀ at' r) (hsub : ∀ p ∈ N₀, p ∈ news) (hok : r.Ok) (hf : FactsIs w news fa i) : Ct w 108 [v, .ref at', .ref fa] 30 700 news (NewR w news N₀ (deed .tag r)) := by
  unfold Ct
  k_fill
  intro mean mg mb dp un gd cn cs a ccd cl outer A₀ base h₀ L m s Q E B F X N T hk hd hu hret
  have hl4 := hok.len
  have ha' := ha
  obtain ⟨hm, hd', lo, hk'⟩ := ha
  obtain ⟨hm2, hd2, lo2, hf1, hf2⟩ := hf
  replace hm := hsub _ hm
  cases hs
  refine wpAny_call ?_
  k_dflt (refine' PySem.W.code_defC ?k1 ?k2 ?k3 ?k4 ?k5 ?kA ?kF ?kK ?k6 ?k7 ?k8 ?k9 ?kB ?kD ?_ ?c2 ?c3 ?c4; (case kA => exact rfl); (case kF => exact rfl); (case kK => first | exact rfl | assumption); (case k1 => k_asm); (case k2 => k_asm); (case k3 => k_asm); (case k4 => k_asm); (case k5 => k_asm); (case k6 => k_is); (case k7 => k_is); (case k8 => (first | omega | (simp only [depth_caller, depth_deeper]; decide) | ((have hcL9 := cLine_is); (simp only [units_caller, units_deeper, Around.mark_units]); omega) | ((try simp only [depth_deeper, units_deeper, depth_in1, units_in1]); omega) | fail "room")); (case k9 => exact BindsTo.of_eq rfl); (case kB => exact rfl); (case kD => decide +kernel); (case c2 => exact rfl); (case c3 => exact rfl); (case c4 => exact rfl); k_whole; intro g' L' h' tk' cells' FG' F' N' Y' B' X' T' l1; k_cells Y'; (try simp only [List.cons_append, List.nil_append] at N'); (try dsimp only); (try k_fold))
  k_steps
  ((rename Fr _ _ _ _ => F5); (rename News _ _ _ _ => N5); (rename AttIs _ (_ ++ _) _ _ => hA5); (first | rw [add_conv] at hA5 | rw [drop_conv] at hA5 | skip); exact hret _ (_ ++ news) _ _ F5 (newsSub N5 (by (repeat' (first | assumption | exact List.forall_mem_nil _ | refine sub_app ?_ ?_ | refine sub_cons ?_ ?_ | k_mem | (intro _ _; k_mem))))) ⟨_, rfl, lt_sub (by assumption) (by (repeat' (first | assumption | exact List.forall_mem_nil _ | refine sub_app ?_ ?_ | refine sub_cons ?_ ?_ | k_mem | (intro _ _; k_mem)))), _, rfl, hA5⟩)
theorem chg_nh {w : World} {v : Value} {at' fa : Addr} {r : Rt} {i : Int} {news N₀ : Led} (hs : StIs news v .nh) (ha : AttIs w N₀ at' r) (hsub : ∀ p ∈ N₀, p ∈ news) (hok : r.Ok) (hf : FactsIs w news fa i) : Ct w 108 [v, .ref at', .ref fa] 30 700 news (NewR w news N₀ (deed .nh r)) := by
  unfold Ct
  k_fill
  intro mean mg mb dp un gd cn cs a ccd cl outer A₀ base h₀ L m s Q E B F X N T hk hd hu hret
  have hl4 := hok.len
  have ha' := ha
  obtain ⟨hm, hd', lo, hk'⟩ := ha
  obtain ⟨hm2, hd2, lo2, hf1, hf2⟩ := hf
  replace hm := hsub _ hm
  cases hs
  refine wpAny_call ?_
  k_dflt (refine' PySem.W.code_defC ?k1 ?k2 ?k3 ?k4 ?k5 ?kA ?kF ?kK ?k6 ?k7 ?k8 ?k9 ?kB ?kD ?_ ?c2 ?c3 ?c4; (case kA => exact rfl); (case kF => exact rfl); (case kK => first | exact rfl | assumption); (case k1 => k_asm); (case k2 => k_asm); (case k3 => k_asm); (case k4 => k_asm); (case k5 => k_asm); (case k6 => k_is); (case k7 => k_is); (case k8 => (first | omega | (simp only [depth_caller, depth_deeper]; decide) | ((have hcL9 := cLine_is); (simp only [units_caller, units_deeper, Around.mark_units]); omega) | ((try simp only [depth_deeper, units_deeper, depth_in1, units_in1]); omega) | fail "room")); (case k9 => exact BindsTo.of_eq rfl); (case kB => exact rfl); (case kD => decide +kernel); (case c2 => exact rfl); (case c3 => exact rfl); (case c4 => exact rfl); k_whole; intro g' L' h' tk' cells' FG' F' N' Y' B' X' T' l1; k_cells Y'; (try simp only [List.cons_append, List.nil_append] at N'); (try dsimp only); (try k_fold))
  k_steps
  ((rename Fr _ _ _ _ => F5); (rename News _ _ _ _ => N5); (rename AttIs _ (_ ++ _) _ _ => hA5); (first | rw [add_conv] at hA5 | rw [drop_conv] at hA5 | skip); exact hret _ (_ ++ news) _ _ F5 (newsSub N5 (by (repeat' (first | assumption | exact List.forall_mem_nil _ | refine sub_app ?_ ?_ | refine sub_cons ?_ ?_ | k_mem | (intro _ _; k_mem))))) ⟨_, rfl, lt_sub (by assumption) (by (repeat' (first | assumption | exact List.forall_mem_nil _ | refine sub_app ?_ ?_ | refine sub_cons ?_ ?_ | k_mem | (intro _ _; k_mem)))), _, rfl, hA5⟩)
theorem chg_clear {w : World} {v : Value} {at' fa : Addr} {r : Rt} {i : Int} {news N₀ : Led} (hs : StIs news v .clear) (ha : AttIs w N₀ at' r) (hsub : ∀ p ∈ N₀, p ∈ news) (hok : r.Ok) (hf : FactsIs w news fa i) : Ct w 108 [v, .ref at', .ref fa] 30 700 news (NewR w news N₀ (deed .clear r)) := by
  unfold Ct
  k_fill
  intro mean mg mb dp un gd cn cs a ccd cl outer A₀ base h₀ L m s Q E B F X N T hk hd hu hret
  have hl4 := hok.len
  have ha' := ha
  obtain ⟨hm, hd', lo, hk'⟩ := ha
  obtain ⟨hm2, hd2, lo2, hf1, hf2⟩ := hf
  replace hm := hsub _ hm
  cases hs
  refine wpAny_call ?_
  k_dflt (refine' PySem.W.code_defC ?k1 ?k2 ?k3 ?k4 ?k5 ?kA ?kF ?kK ?k6 ?k7 ?k8 ?k9 ?kB ?kD ?_ ?c2 ?c3 ?c4; (case kA => exact rfl); (case kF => exact rfl); (case kK => first | exact rfl | assumption); (case k1 => k_asm); (case k2 => k_asm); (case k3 => k_asm); (case k4 => k_asm); (case k5 => k_asm); (case k6 => k_is); (case k7 => k_is); (case k8 => (first | omega | (simp only [depth_caller, depth_deeper]; decide) | ((have hcL9 := cLine_is); (simp only [units_caller, units_deeper, Around.mark_units]); omega) | ((try simp only [depth_deeper, units_deeper, depth_in1, units_in1]); omega) | fail "room")); (case k9 => exact BindsTo.of_eq rfl); (case kB => exact rfl); (case kD => decide +kernel); (case c2 => exact rfl); (case c3 => exact rfl); (case c4 => exact rfl); k_whole; intro g' L' h' tk' cells' FG' F' N' Y' B' X' T' l1; k_cells Y'; (try simp only [List.cons_append, List.nil_append] at N'); (try dsimp only); (try k_fold))
  k_steps
  ((rename Fr _ _ _ _ => F5); (rename News _ _ _ _ => N5); (rename AttIs _ (_ ++ _) _ _ => hA5); (first | rw [add_conv] at hA5 | rw [drop_conv] at hA5 | skip); exact hret _ (_ ++ news) _ _ F5 (newsSub N5 (by (repeat' (first | assumption | exact List.forall_mem_nil _ | refine sub_app ?_ ?_ | refine sub_cons ?_ ?_ | k_mem | (intro _ _; k_mem))))) ⟨_, rfl, lt_sub (by assumption) (by (repeat' (first | assumption | exact List.forall_mem_nil _ | refine sub_app ?_ ?_ | refine sub_cons ?_ ?_ | k_mem | (intro _ _; k_mem)))), _, rfl, hA5⟩)
theorem chg_add {w : World} {sa at' fa : Addr} {r : Rt} {i k : Int} {t1 t2 : Tok} {news N₀ : Led} (hs : (sa, tupO [.str "add" t1, .int k t2]) ∈ news) (hk4 : k ∈ four) (ha : AttIs w N₀ at' r) (hsub : ∀ p ∈ N₀, p ∈ news) (hok : r.Ok) (hf : FactsIs w news fa i) : Ct w 108 [.ref sa, .ref at', .ref fa] 30 700 news (NewR w news N₀ { r with com := four.filter (fun x => decide (x ∈ r.com) || decide (x = k)) }) := by
  unfold Ct
  k_fill
  intro mean mg mb dp un gd cn cs a ccd cl outer A₀ base h₀ L m s Q E B F X N T hk hd hu hret
  have hl4 := hok.len
  have ha' := ha
  obtain ⟨hm, hd', lo, hk'⟩ := ha
  obtain ⟨hm2, hd2, lo2, hf1, hf2⟩ := hf
  replace hm := hsub _ hm
  refine wpAny_call ?_
  k_dflt (refine' PySem.W.code_defC ?k1 ?k2 ?k3 ?k4 ?k5 ?kA ?kF ?kK ?k6 ?k7 ?k8 ?k9 ?kB ?kD ?_ ?c2 ?c3 ?c4; (case kA => exact rfl); (case kF => exact rfl); (case kK => first | exact rfl | assumption); (case k1 => k_asm); (case k2 => k_asm); (case k3 => k_asm); (case k4 => k_asm); (case k5 => k_asm); (case k6 => k_is); (case k7 => k_is); (case k8 => (first | omega | (simp only [depth_caller, depth_deeper]; decide) | ((have hcL9 := cLine_is); (simp only [units_caller, units_deeper, Around.mark_units]); omega) | ((try simp only [depth_deeper, units_deeper, depth_in1, units_in1]); omega) | fail "room")); (case k9 => exact BindsTo.of_eq rfl); (case kB => exact rfl); (case kD => decide +kernel); (case c2 => exact rfl); (case c3 => exact rfl); (case c4 => exact rfl); k_whole; intro g' L' h' tk' cells' FG' F' N' Y' B' X' T' l1; k_cells Y'; (try simp only [List.cons_append, List.nil_append] at N'); (try dsimp only); (try k_fold))
  k_steps
  ((rename Fr _ _ _ _ => F5); (rename News _ _ _ _ => N5); (rename AttIs _ (_ ++ _) _ _ => hA5); (first | rw [add_conv] at hA5 | rw [drop_conv] at hA5 | skip); exact hret _ (_ ++ news) _ _ F5 (newsSub N5 (by (repeat' (first | assumption | exact List.forall_mem_nil _ | refine sub_app ?_ ?_ | refine sub_cons ?_ ?_ | k_mem | (intro _ _; k_mem))))) ⟨_, rfl, lt_sub (by assumption) (by (repeat' (first | assumption | exact List.forall_mem_nil _ | refine sub_app ?_ ?_ | refine sub_cons ?_ ?_ | k_mem | (intro _ _; k_mem)))), _, rfl, hA5⟩)
theorem drop_test {j k : Int} {tj : Tok} : (j != k) = intP (fun x => decide (x ≠ k)) (.int j tj) := by
  show (j != k) = decide (j ≠ k)
  by_cases h : j = k <;> simp [h]
theorem chg_drop {w : World} {sa at' fa : Addr} {r : Rt} {i k : Int} {t1 t2 : Tok} {news N₀ : Led} (hs : (sa, tupO [.str "drop" t1, .int k t2]) ∈ news) (ha : AttIs w N₀ at' r) (hsub : ∀ p ∈ N₀, p ∈ news) (hok : r.Ok) (hf : FactsIs w news fa i) : Ct w 108 [.ref sa, .ref at', .ref fa] 30 700 news (NewR w news N₀ { r with com := four.filter (fun x => decide (x ∈ r.com) && decide (x ≠ k)) }) := by
  unfold Ct
  k_fill
  intro mean mg mb dp un gd cn cs a ccd cl outer A₀ base h₀ L m s Q E B F X N T hk hd hu hret
  have hl4 := hok.len
  have ha' := ha
  obtain ⟨hm, hd', lo, hk'⟩ := ha
  obtain ⟨hm2, hd2, lo2, hf1, hf2⟩ := hf
  replace hm := hsub _ hm
  refine wpAny_call ?_
  k_dflt (refine' PySem.W.code_defC ?k1 ?k2 ?k3 ?k4 ?k5 ?kA ?kF ?kK ?k6 ?k7 ?k8 ?k9 ?kB ?kD ?_ ?c2 ?c3 ?c4; (case kA => exact rfl); (case kF => exact rfl); (case kK => first | exact rfl | assumption); (case k1 => k_asm); (case k2 => k_asm); (case k3 => k_asm); (case k4 => k_asm); (case k5 => k_asm); (case k6 => k_is); (case k7 => k_is); (case k8 => (first | omega | (simp only [depth_caller, depth_deeper]; decide) | ((have hcL9 := cLine_is); (simp only [units_caller, units_deeper, Around.mark_units]); omega) | ((try simp only [depth_deeper, units_deeper, depth_in1, units_in1]); omega) | fail "room")); (case k9 => exact BindsTo.of_eq rfl); (case kB => exact rfl); (case kD => decide +kernel); (case c2 => exact rfl); (case c3 => exact rfl); (case c4 => exact rfl); k_whole; intro g' L' h' tk' cells' FG' F' N' Y' B' X' T' l1; k_cells Y'; (try simp only [List.cons_append, List.nil_append] at N'); (try dsimp only); (try k_fold))
  k_steps
  unfold Stop
  rename Fr _ _ _ _ => F3
  refine listcomp_self F3 rfl (by with_unfolding_all rfl) (by decide) (by with_unfolding_all rfl) (by decide) (by with_unfolding_all rfl) (by intro _; with_unfolding_all rfl) ?_
  k_steps
  unfold Stop
  rename IntsAre _ _ => hi3
  rename List Value => vs3
  have hl3 := hi3.length
  refine ⟨_, _, rfl, .mk (vs := vs3) (n := _) (p := intP (fun x => decide (x ≠ k))) (by k_asm) (by k_asm) (.inl (by k_mem)) (by omega) ?tests ?item ?cont⟩
  case tests =>
    intro C v s₂ m₂ E' hv hn hx hk
    obtain ⟨j, tj, rfl, hj⟩ := ints_mem hi3 hv
    k_steps
    · exact drop_test
    · (exact ⟨_, _, rfl, fun _ _ e => e⟩)
  case item =>
    intro C v s₂ m₂ E' hv hp hn hx hk
    k_steps
    (exact ⟨_, _, rfl, fun _ _ e => e⟩)
  case cont =>
    intro D n h2 tk2 F2 N2 ne2
    have hi4 := ints_filter (p := intP (fun x => decide (x ≠ k))) (q := fun x => decide (x ≠ k)) (fun _ _ => rfl) hi3
    have hl4 := hi4.length
    have hl5 := List.length_filter_le (fun x => decide (x ≠ k)) r.com
    have h4 : ∀ x ∈ r.com.filter (fun x => decide (x ≠ k)), x ∈ four := fun x hx => hok.mem x (List.mem_filter.mp hx).1
    k_steps
    ((rename Fr _ _ _ _ => F5); (rename News _ _ _ _ => N5); (rename AttIs _ (_ ++ _) _ _ => hA5); (first | rw [add_conv] at hA5 | rw [drop_conv] at hA5 | skip); exact hret _ (_ ++ news) _ _ F5 (newsSub N5 (by (repeat' (first | assumption | exact List.forall_mem_nil _ | refine sub_app ?_ ?_ | refine sub_cons ?_ ?_ | k_mem | (intro _ _; k_mem))))) ⟨_, rfl, lt_sub (by assumption) (by (repeat' (first | assumption | exact List.forall_mem_nil _ | refine sub_app ?_ ?_ | refine sub_cons ?_ ?_ | k_mem | (intro _ _; k_mem)))), _, rfl, hA5⟩)
def St.isDeed : St → Bool
  | .acc | .rej | .nxt | .if0 .. | .if1 .. => false
  | _ => true
theorem chg_ct {w : World} {v : Value} {at' fa : Addr} {r : Rt} {i : Int} {news N₀ : Led} {d : St} (hs : StIs news v d) (hd : d.isDeed = true) (ha : AttIs w N₀ at' r) (hsub : ∀ p ∈ N₀, p ∈ news) (hok : r.Ok) (hf : FactsIs w news fa i) : Ct w 108 [v, .ref at', .ref fa] 30 700 news (NewR w news N₀ (deed d r)) := by
  cases hs with
  | acc h => cases hd
  | rej h => cases hd
  | nxt h => cases hd
  | if0 h => cases hd
  | if1 h => cases hd
  | med h => exact chg_med (.med h) ha hsub hok hf
  | lp h => exact chg_lp (.lp h) ha hsub hok hf
  | tag h => exact chg_tag (.tag h) ha hsub hok hf
  | nh h => exact chg_nh (.nh h) ha hsub hok hf
  | clear h => exact chg_clear (.clear h) ha hsub hok hf
  | add1 h => exact chg_add h (by decide) ha hsub hok hf
  | add2 h => exact chg_add h (by decide) ha hsub hok hf
  | drop1 h => exact chg_drop h ha hsub hok hf
  | drop3 h => exact chg_drop h ha hsub hok hf
end

inductive SIs (N : Led) (n : Nat) : List Value → List St → Prop
  | nil : SIs N n [] []
  | cons {v vs x xs} (h : StIs N v x) (k : x.ok n) (r : SIs N n vs xs) : SIs N n (v :: vs) (x :: xs)
theorem kwruns34 : True := by
  k_with_none
  k_with "m call builtin:len" => (k_here; (with_reducible show wpAny _ _ (call (Value.builtin "len") [Value.ref _]) _ _ _); k_dflt (refine' len_led ?k1_z ?k2_z ?k3_z ?k4_z ?_; (case k1_z => k_asm); (case k2_z => k_mem); (case k3_z => with_reducible assumption); (case k4_z => omega)))
  k_with "m ite" => (k_closed; with_reducible (first | refine ite_tt ?_ | refine ite_ff ?_ | refine PySem.W.ite_neg (by decide) ?_ | refine PySem.W.ite_pos (by decide) ?_))
  k_with "m subscriptTail" => (k_here; (with_reducible show wpAny _ _ (subscriptTail _ _ (Value.ref _) (Value.int _ _)) _ _ _); k_dflt (first | (refine' sub_list ?N_z ?m_z ?a_z ?b_z ?x_z ?s_z ?_; (case N_z => k_asm); (case m_z => k_mem); (case a_z => decide); (case b_z => decide); (case x_z => rfl); (case s_z => with_unfolding_all rfl)) | (refine' sub_tup ?N_z ?m_z ?a_z ?b_z ?j_z ?x_z ?s_z ?_; (case N_z => k_asm); (case m_z => k_mem); (case a_z => decide); (case b_z => decide); (case j_z => rfl); (case x_z => rfl); (case s_z => with_unfolding_all rfl))))
  k_with "m subscriptTail Name Call ref int" => (k_here; (with_reducible show wpAny _ _ (subscriptTail _ _ (Value.ref _) (Value.int _ _)) _ _ _); k_dflt (first | (refine' sub_list_any ?N_z ?m_z ?a_z ?b_z ?z_z ?s_z ?_; (case N_z => k_asm); (case m_z => k_mem); (case a_z => omega); (case b_z => first | (simp only [List.length_cons, List.length_nil]; omega) | (simp only [List.length_append, List.length_cons, List.length_nil]; omega) | (simp only [List.length_append]; omega)); (case z_z => first | exact Nat.le_of_ble_eq_true rfl | (simp only [List.length_append, List.length_cons, List.length_nil]; omega) | (simp only [List.length_append]; omega)); (case s_z => with_unfolding_all rfl)) | (refine' sub_tup_any ?N_z ?m_z ?a_z ?b_z ?z_z ?s_z ?_; (case N_z => k_asm); (case m_z => k_mem); (case a_z => omega); (case b_z => first | (simp only [List.length_cons, List.length_nil]; omega) | (simp only [List.length_append, List.length_cons, List.length_nil]; omega) | (simp only [List.length_append]; omega)); (case z_z => first | exact Nat.le_of_ble_eq_true rfl | (simp only [List.length_append, List.length_cons, List.length_nil]; omega) | (simp only [List.length_append]; omega)); (case s_z => with_unfolding_all rfl))); intro _ _)
  k_with "m subscriptTail Tuple" => (k_here; (with_reducible show wpAny _ _ (subscriptTail _ _ (Value.ref _) (Value.int _ _)) _ _ _); k_dflt (first | (refine' sub_list_any ?N_z ?m_z ?a_z ?b_z ?z_z ?s_z ?_; (case N_z => k_asm); (case m_z => k_mem); (case a_z => omega); (case b_z => first | (simp only [List.length_cons, List.length_nil]; omega) | (simp only [List.length_append, List.length_cons, List.length_nil]; omega) | (simp only [List.length_append]; omega)); (case z_z => first | exact Nat.le_of_ble_eq_true rfl | (simp only [List.length_append, List.length_cons, List.length_nil]; omega) | (simp only [List.length_append]; omega)); (case s_z => with_unfolding_all rfl)) | (refine' sub_tup_any ?N_z ?m_z ?a_z ?b_z ?z_z ?s_z ?_; (case N_z => k_asm); (case m_z => k_mem); (case a_z => omega); (case b_z => first | (simp only [List.length_cons, List.length_nil]; omega) | (simp only [List.length_append, List.length_cons, List.length_nil]; omega) | (simp only [List.length_append]; omega)); (case z_z => first | exact Nat.le_of_ble_eq_true rfl | (simp only [List.length_append, List.length_cons, List.length_nil]; omega) | (simp only [List.length_append]; omega)); (case s_z => with_unfolding_all rfl))); intro _ _)
  k_with "m subscriptTail List" => (k_here; (with_reducible show wpAny _ _ (subscriptTail _ _ (Value.ref _) (Value.int _ _)) _ _ _); k_dflt (first | (refine' sub_list_any ?N_z ?m_z ?a_z ?b_z ?z_z ?s_z ?_; (case N_z => k_asm); (case m_z => k_mem); (case a_z => omega); (case b_z => first | (simp only [List.length_cons, List.length_nil]; omega) | (simp only [List.length_append, List.length_cons, List.length_nil]; omega) | (simp only [List.length_append]; omega)); (case z_z => first | exact Nat.le_of_ble_eq_true rfl | (simp only [List.length_append, List.length_cons, List.length_nil]; omega) | (simp only [List.length_append]; omega)); (case s_z => with_unfolding_all rfl)) | (refine' sub_tup_any ?N_z ?m_z ?a_z ?b_z ?z_z ?s_z ?_; (case N_z => k_asm); (case m_z => k_mem); (case a_z => omega); (case b_z => first | (simp only [List.length_cons, List.length_nil]; omega) | (simp only [List.length_append, List.length_cons, List.length_nil]; omega) | (simp only [List.length_append]; omega)); (case z_z => first | exact Nat.le_of_ble_eq_true rfl | (simp only [List.length_append, List.length_cons, List.length_nil]; omega) | (simp only [List.length_append]; omega)); (case s_z => with_unfolding_all rfl))); intro _ _)
  k_with "m execs cons" => (k_here; (with_reducible show wpAny _ _ _ _ _ (Shared.mk _ _ _ (_ + 1) _)); refine gen_toks ?_; intro (tk : Nat))
  trivial
theorem SIs.of {N : Led} {vs : List Value} {xs : List St} (h : StsIs N vs xs) : SIs N 2 vs xs := by
  induction h with
  | nil => exact .nil
  | cons h k _ r => exact .cons h k r
theorem SIs.mono {N N' : Led} {n : Nat} {vs : List Value} {xs : List St} (h : SIs N n vs xs) (s : ∀ p ∈ N, p ∈ N') : SIs N' n vs xs := by
  induction h with
  | nil => exact .nil
  | cons h k _ r => exact .cons (h.mono s) k r
theorem SIs.length {N : Led} {n : Nat} {vs : List Value} {xs : List St} (h : SIs N n vs xs) : vs.length = xs.length := by
  induction h with
  | nil => rfl
  | cons h k _ r => simp [r]
theorem SIs.get {N : Led} {n : Nat} {vs : List Value} {xs : List St} (h : SIs N n vs xs) : ∀ {i : Nat} {v : Value}, vs[i]? = some v → ∃ x, xs.drop i = x :: xs.drop (i + 1) ∧ StIs N v x ∧ x.ok n := by
  induction h with
  | nil => intro i v h; simp at h
  | @cons v' vs' x' xs' h k _ r =>
    intro i v hv
    cases i with
    | zero =>
      have e : v' = v := by simpa using hv
      subst e
      exact ⟨x', rfl, h, k⟩
    | succ i =>
      obtain ⟨x, e, hx⟩ := r (by simpa using hv)
      exact ⟨x, by simpa using e, hx⟩

inductive SV (N : Led) (e : Cx) (n : Nat) : Value → St → Prop
  | acc {a t} (h : (a, tupO [.str "accept" t]) ∈ N) : SV N e n (.ref a) .acc
  | rej {a t} (h : (a, tupO [.str "reject" t]) ∈ N) : SV N e n (.ref a) .rej
  | nxt {a t} (h : (a, tupO [.str "next" t]) ∈ N) : SV N e n (.ref a) .nxt
  | set {a t v1 v2 x} (h : (a, tupO [.str "set" t, v1, v2]) ∈ N) (hx : StIs N (.ref a) x) (hd : x.isDeed = true) : SV N e n (.ref a) x
  | add {a t v1 x} (h : (a, tupO [.str "add" t, v1]) ∈ N) (hx : StIs N (.ref a) x) (hd : x.isDeed = true) : SV N e n (.ref a) x
  | drop {a t v1 x} (h : (a, tupO [.str "drop" t, v1]) ∈ N) (hx : StIs N (.ref a) x) (hd : x.isDeed = true) : SV N e n (.ref a) x
  | clear {a t x} (h : (a, tupO [.str "clear" t]) ∈ N) (hx : StIs N (.ref a) x) (hd : x.isDeed = true) : SV N e n (.ref a) x
  | cond {a t1 q th el tvs evs qx txs exs x k} (h : (a, tupO [.str "if" t1, q, .ref th, .ref el]) ∈ N) (ht : (th, tupO tvs) ∈ N) (he : (el, tupO evs) ∈ N) (hq : AskIs N q qx) (hq1 : qx.dep ≤ 1) (hn : k < n)
      (h1 : SIs N k tvs txs) (h2 : SIs N k evs exs) (l1 : txs.length ≤ 10) (l2 : exs.length ≤ 10) (hr : ∀ r, run1 e x r = if qx.ev e then runL e txs r else runL e exs r) : SV N e n (.ref a) x
theorem run_one (e : Cx) (t : St) (r : Rt) : runL e [t] r = run1 e t r := by
  simp only [runL]
  by_cases h : (run1 e t r).1 = 0
  · rw [if_pos h]; exact Prod.ext h.symm rfl
  · rw [if_neg h]
theorem sv_of {N : Led} {e : Cx} {n : Nat} {v : Value} {x : St} (h : StIs N v x) (k : x.ok n) : SV N e n v x := by
  cases h with
  | acc h => exact .acc h
  | rej h => exact .rej h
  | nxt h => exact .nxt h
  | med h => exact .set h (.med h) rfl
  | lp h => exact .set h (.lp h) rfl
  | tag h => exact .set h (.tag h) rfl
  | nh h => exact .set h (.nh h) rfl
  | add1 h => exact .add h (.add1 h) rfl
  | add2 h => exact .add h (.add2 h) rfl
  | drop1 h => exact .drop h (.drop1 h) rfl
  | drop3 h => exact .drop h (.drop3 h) rfl
  | clear h => exact .clear h (.clear h) rfl
  | if0 h ht he hq hy =>
    cases n with
    | zero => exact absurd k (by simp [St.ok])
    | succ n =>
      obtain ⟨k1, k2⟩ := k
      exact .cond h ht he hq k1 (Nat.lt_succ_self n) (.cons hy k2 .nil) .nil (Nat.le_of_ble_eq_true rfl) (Nat.le_of_ble_eq_true rfl) fun r => by rw [run_one]; rfl
  | if1 h ht he hq hy hy' =>
    cases n with
    | zero => exact absurd k (by simp [St.ok])
    | succ n =>
      obtain ⟨k1, k2, k3⟩ := k
      exact .cond h ht he hq k1 (Nat.lt_succ_self n) (.cons hy k2 .nil) (.cons hy' k3 .nil) (Nat.le_of_ble_eq_true rfl) (Nat.le_of_ble_eq_true rfl) fun r => by rw [run_one, run_one]; rfl

def RunPost (w : World) (news N₀ : Led) (p : Nat × Rt) : Value → Led → Prop := fun r news' => ∃ tl, news' = tl ++ news ∧ (∀ q ∈ tl, ∀ p ∈ news, @LT.lt Nat _ p.1 q.1) ∧ ∃ T tk D, r = .ref T ∧ (T, tupO [.int (p.1 : Nat) tk, .ref D]) ∈ tl ∧ AttIs w (tl ++ N₀) D p.2
def RunCt (w : World) (e : Cx) (n : Nat) : Prop := ∀ {ta pa at' fa : Addr} {svs : List Value} {xs : List St} {r : Rt} {news N₀ : Led}, (ta, tupO svs) ∈ news → SIs news n svs xs → xs.length ≤ 10 → PreIs news pa e.pre → AttIs w N₀ at' r → (∀ p ∈ N₀, p ∈ news) → r.Ok → FactsIs w news fa e.peer → r.org = e.org → r.two = e.two →
  Ct w 115 [.ref ta, .ref pa, .ref at', .ref fa] (100 + 20 * n) (1000 + 200 * n) news (RunPost w news N₀ (runL e xs r))

structure RGood (e : Cx) (q : Rt) : Prop where
  ok : q.Ok
  org : q.org = e.org
  two : q.two = e.two
theorem RGood.step {e : Cx} {q : Rt} (h : RGood e q) (x : St) : RGood e (run1 e x q).2 := by
  obtain ⟨k, f, hf, hr⟩ := run1_shape e x
  rw [hr]
  exact ⟨hf.ok _ h.ok, (hf.org q).trans h.org, (hf.two q).trans h.two⟩
def RJ (w : World) (e : Cx) (news N₀ : Led) (xs : List St) (r : Rt) (m₀ : Str → Option Value) (i : Nat) (m : Str → Option Value) (news' : Led) : Prop :=
  ∃ sv ev hv D tl q, m = (fun y => if y = Str.ofString "statement" then sv else if y = Str.ofString "ended" then ev else if y = Str.ofString "holds" then hv else if y = Str.ofString "attrs" then some (.ref D) else m₀ y) ∧
    news' = tl ++ news ∧ (∀ q ∈ tl, ∀ p ∈ news, @LT.lt Nat _ p.1 q.1) ∧ AttIs w (tl ++ N₀) D q ∧ RGood e q ∧ runL e xs r = runL e (xs.drop i) q
theorem RJ.start {w : World} {e : Cx} {news N₀ : Led} {xs : List St} {r : Rt} {m₀ : Str → Option Value} {D : Addr} (h : m₀ (Str.ofString "attrs") = some (.ref D)) (ha : AttIs w N₀ D r) (g : RGood e r) : RJ w e news N₀ xs r m₀ 0 m₀ news :=
  ⟨m₀ (Str.ofString "statement"), m₀ (Str.ofString "ended"), m₀ (Str.ofString "holds"), D, [], r, by
    funext y
    (repeat' split) <;> first | rfl | (rename_i h'; rw [h']; done) | (rename_i h'; rw [h', h]), rfl, (fun _ h => absurd h List.not_mem_nil), ha, g, rfl⟩
theorem RJ.close {w : World} {e : Cx} {news N₀ : Led} {xs : List St} {r q q' : Rt} {m₀ m' : Str → Option Value} {i : Nat} {h₀ h' : Heap} {L I D : Addr} {io : Obj} {s₁ : Shared} {tk : Nat} {tl tl9 full : Led} {x : St}
    (F : Fr h₀ L h' m') (N : News h₀ L h' full) (hsub : ∀ p ∈ (I, io) :: ((tl9 ++ tl) ++ news), p ∈ full) (em : ∀ y, y ≠ Str.ofString "statement" → y ≠ Str.ofString "ended" → y ≠ Str.ofString "holds" → y ≠ Str.ofString "attrs" → m' y = m₀ y)
    (ea : m' (Str.ofString "attrs") = some (.ref D)) (hoff : ∀ p ∈ tl ++ news, p.1 ≠ I) (l0 : ∀ q ∈ tl, ∀ p ∈ news, @LT.lt Nat _ p.1 q.1) (l9 : ∀ q ∈ tl9, ∀ p ∈ (I, io) :: (tl ++ news), @LT.lt Nat _ p.1 q.1)
    (ha : AttIs w (tl9 ++ (tl ++ N₀)) D q') (g : RGood e q') (hrun : runL e xs r = runL e (xs.drop i) q) (hx : xs.drop i = x :: xs.drop (i + 1)) (h1 : run1 e x q = (0, q')) :
    UnrEnd h₀ L s₁ I io (RJ w e news N₀ xs r m₀ (i + 1)) { s₁ with heap := h', toks := tk } := by
  have em' : m' = (fun y => if y = Str.ofString "statement" then m' (Str.ofString "statement") else if y = Str.ofString "ended" then m' (Str.ofString "ended") else if y = Str.ofString "holds" then m' (Str.ofString "holds") else if y = Str.ofString "attrs" then some (.ref D) else m₀ y) := by
    funext y
    (repeat' split) <;> first | (rename_i h; rw [h]; done) | (rename_i h; rw [h, ea]) | exact em y (by assumption) (by assumption) (by assumption) (by assumption)
  refine UnrEnd.intro F N ((tl9 ++ tl) ++ news) hsub (fun p hp => ?_) ⟨_, _, _, D, tl9 ++ tl, q', em', rfl, fun q hq p hp => ?_, by rw [List.append_assoc]; exact ha, g, ?_⟩
  · rw [List.append_assoc] at hp
    rcases List.mem_append.mp hp with hp | hp
    · exact Nat.ne_of_gt (l9 p hp (I, io) List.mem_cons_self)
    · exact hoff p hp
  · rcases List.mem_append.mp hq with hq | hq
    · exact l9 q hq p (List.mem_cons_of_mem _ (List.mem_append_right _ hp))
    · exact l0 q hq p hp
  · rw [hrun, hx]
    simp only [runL, h1, if_true]
theorem cond_ctb {w : World} {e : Cx} {q : Ask} {b : Bool} {v : Value} {pa at' fa : Addr} {r : Rt} {news : Led} (hb : q.ev e = b) (hq : AskIs news v q) (hp : PreIs news pa e.pre) (ha : AttIs w news at' r) (hf : FactsIs w news fa e.peer) (ho : r.org = e.org) (ht : r.two = e.two) (hd : q.dep ≤ 1) :
    Ct w 93 [v, .ref pa, .ref at', .ref fa] 35 330 news (RoPost news fun r => r = .bool b) := by
  have c := @cond_ct w e q v pa at' fa r news hq hp ha hf ho ht
  rw [hb] at c
  unfold Ct at c ⊢
  intro mean mg mb dp un gd cn cs a ccd cl outer A₀ base h₀ L m s Q E B F X N T hk hd' hu hret
  exact c mean mg mb dp un gd cn cs a ccd cl outer A₀ base h₀ L m s Q E B F X N T hk (by omega) (by omega) hret
theorem run_end {w : World} {news N₀ : Led} {p : Nat × Rt} {kk : Nat} {k : Int} {q' : Rt} {h₀ h' : Heap} {L T D : Addr} {m : Str → Option Value} {s : Shared} {Q : Value → Shared → Prop} {full tls : Led} {tk' : Nat} {tk : Tok}
    (hret : ∀ r news' h' tk', Fr h₀ L h' m → News h₀ L h' news' → RunPost w news N₀ p r news' → Q r { s with heap := h', toks := tk' })
    (F : Fr h₀ L h' m) (N : News h₀ L h' full) (ha : AttIs w (tls ++ N₀) D q') (hp : p = (kk, q')) (hT : (T, tupO [.int k tk, .ref D]) ∈ full) (hk : k = ((kk : Nat) : Int)) (hsub : ∀ p ∈ tls ++ news, p ∈ full)
    (lT : ∀ p ∈ news, @LT.lt Nat _ p.1 T) (l : ∀ q ∈ tls, ∀ p ∈ news, @LT.lt Nat _ p.1 q.1) : Q (.ref T) { s with heap := h', toks := tk' } := by
  subst hp
  subst hk
  refine hret _ (((T, tupO [.int ((kk : Nat) : Int) tk, .ref D]) :: tls) ++ news) _ _ F (newsSub N fun p hp => ?_) ⟨_, rfl, fun q hq p hp => ?_, T, tk, D, rfl, ?_, ha.mono fun p hp => List.mem_cons_of_mem _ hp⟩
  · rcases List.mem_cons.mp hp with rfl | hp
    · exact hT
    · exact hsub p hp
  · rcases List.mem_cons.mp hq with rfl | hq
    · exact lT p hp
    · exact l q hq p hp
  · exact List.mem_cons_self
theorem run_hit {e : Cx} {xs : List St} {r q q' : Rt} {i k : Nat} {x : St} (hrun : runL e xs r = runL e (xs.drop i) q) (hx : xs.drop i = x :: xs.drop (i + 1)) (h1 : run1 e x q = (k, q')) (hk : k ≠ 0) : runL e xs r = (k, q') := by
  rw [hrun, hx]
  simp only [runL, h1, if_neg hk]
theorem deed_run {e : Cx} {x : St} (h : x.isDeed = true) (q : Rt) : run1 e x q = (0, deed x q) := by
  cases x <;> first | rfl | cases h
theorem l_two {tl tl9 news : Led} {p₀ : Addr × Obj} (l9 : ∀ q ∈ tl9, ∀ p ∈ p₀ :: (tl ++ news), @LT.lt Nat _ p.1 q.1) (l0 : ∀ q ∈ tl, ∀ p ∈ news, @LT.lt Nat _ p.1 q.1) : ∀ q ∈ tl9 ++ tl, ∀ p ∈ news, @LT.lt Nat _ p.1 q.1 := fun q hq p hp => by
  rcases List.mem_append.mp hq with hq | hq
  · exact l9 q hq p (List.mem_cons_of_mem _ (List.mem_append_right _ hp))
  · exact l0 q hq p hp
theorem zero_pair {p : Nat × Rt} (h : ((p.1 : Nat) : Int) = 0) : p = (0, p.2) := Prod.ext (by show p.1 = 0; omega) rfl

section
theorem kwrun35 : True := by
  k_with_none
  k_with "m call builtin:len" => (k_here; (with_reducible show wpAny _ _ (call (Value.builtin "len") [Value.ref _]) _ _ _); k_dflt (refine' len_led ?k1_z ?k2_z ?k3_z ?k4_z ?_; (case k1_z => k_asm); (case k2_z => k_mem); (case k3_z => with_reducible assumption); (case k4_z => omega)))
  k_with "m ite" => (k_closed; with_reducible (first | refine ite_tt ?_ | refine ite_ff ?_ | refine PySem.W.ite_neg (by decide) ?_ | refine PySem.W.ite_pos (by decide) ?_))
  k_with "m subscriptTail" => (k_here; (with_reducible show wpAny _ _ (subscriptTail _ _ (Value.ref _) (Value.int _ _)) _ _ _); k_dflt (first | (refine' sub_list ?N_z ?m_z ?a_z ?b_z ?x_z ?s_z ?_; (case N_z => k_asm); (case m_z => k_mem); (case a_z => decide); (case b_z => decide); (case x_z => rfl); (case s_z => with_unfolding_all rfl)) | (refine' sub_tup ?N_z ?m_z ?a_z ?b_z ?j_z ?x_z ?s_z ?_; (case N_z => k_asm); (case m_z => k_mem); (case a_z => decide); (case b_z => decide); (case j_z => rfl); (case x_z => rfl); (case s_z => with_unfolding_all rfl))))
  k_with "m subscriptTail Name Call ref int" => (k_here; (with_reducible show wpAny _ _ (subscriptTail _ _ (Value.ref _) (Value.int _ _)) _ _ _); k_dflt (first | (refine' sub_list_any ?N_z ?m_z ?a_z ?b_z ?z_z ?s_z ?_; (case N_z => k_asm); (case m_z => k_mem); (case a_z => omega); (case b_z => first | (simp only [List.length_cons, List.length_nil]; omega) | (simp only [List.length_append, List.length_cons, List.length_nil]; omega) | (simp only [List.length_append]; omega)); (case z_z => first | exact Nat.le_of_ble_eq_true rfl | (simp only [List.length_append, List.length_cons, List.length_nil]; omega) | (simp only [List.length_append]; omega)); (case s_z => with_unfolding_all rfl)) | (refine' sub_tup_any ?N_z ?m_z ?a_z ?b_z ?z_z ?s_z ?_; (case N_z => k_asm); (case m_z => k_mem); (case a_z => omega); (case b_z => first | (simp only [List.length_cons, List.length_nil]; omega) | (simp only [List.length_append, List.length_cons, List.length_nil]; omega) | (simp only [List.length_append]; omega)); (case z_z => first | exact Nat.le_of_ble_eq_true rfl | (simp only [List.length_append, List.length_cons, List.length_nil]; omega) | (simp only [List.length_append]; omega)); (case s_z => with_unfolding_all rfl))); intro _ _)
  k_with "m subscriptTail Tuple" => (k_here; (with_reducible show wpAny _ _ (subscriptTail _ _ (Value.ref _) (Value.int _ _)) _ _ _); k_dflt (first | (refine' sub_list_any ?N_z ?m_z ?a_z ?b_z ?z_z ?s_z ?_; (case N_z => k_asm); (case m_z => k_mem); (case a_z => omega); (case b_z => first | (simp only [List.length_cons, List.length_nil]; omega) | (simp only [List.length_append, List.length_cons, List.length_nil]; omega) | (simp only [List.length_append]; omega)); (case z_z => first | exact Nat.le_of_ble_eq_true rfl | (simp only [List.length_append, List.length_cons, List.length_nil]; omega) | (simp only [List.length_append]; omega)); (case s_z => with_unfolding_all rfl)) | (refine' sub_tup_any ?N_z ?m_z ?a_z ?b_z ?z_z ?s_z ?_; (case N_z => k_asm); (case m_z => k_mem); (case a_z => omega); (case b_z => first | (simp only [List.length_cons, List.length_nil]; omega) | (simp only [List.length_append, List.length_cons, List.length_nil]; omega) | (simp only [List.length_append]; omega)); (case z_z => first | exact Nat.le_of_ble_eq_true rfl | (simp only [List.length_append, List.length_cons, List.length_nil]; omega) | (simp only [List.length_append]; omega)); (case s_z => with_unfolding_all rfl))); intro _ _)
  k_with "m subscriptTail List" => (k_here; (with_reducible show wpAny _ _ (subscriptTail _ _ (Value.ref _) (Value.int _ _)) _ _ _); k_dflt (first | (refine' sub_list_any ?N_z ?m_z ?a_z ?b_z ?z_z ?s_z ?_; (case N_z => k_asm); (case m_z => k_mem); (case a_z => omega); (case b_z => first | (simp only [List.length_cons, List.length_nil]; omega) | (simp only [List.length_append, List.length_cons, List.length_nil]; omega) | (simp only [List.length_append]; omega)); (case z_z => first | exact Nat.le_of_ble_eq_true rfl | (simp only [List.length_append, List.length_cons, List.length_nil]; omega) | (simp only [List.length_append]; omega)); (case s_z => with_unfolding_all rfl)) | (refine' sub_tup_any ?N_z ?m_z ?a_z ?b_z ?z_z ?s_z ?_; (case N_z => k_asm); (case m_z => k_mem); (case a_z => omega); (case b_z => first | (simp only [List.length_cons, List.length_nil]; omega) | (simp only [List.length_append, List.length_cons, List.length_nil]; omega) | (simp only [List.length_append]; omega)); (case z_z => first | exact Nat.le_of_ble_eq_true rfl | (simp only [List.length_append, List.length_cons, List.length_nil]; omega) | (simp only [List.length_append]; omega)); (case s_z => with_unfolding_all rfl))); intro _ _)
  k_with "m execs cons" => (k_here; (with_reducible show wpAny _ _ _ _ _ (Shared.mk _ _ _ (_ + 1) _)); refine gen_toks ?_; intro (tk : Nat))
  k_with "m call ref" => (k_here; (with_reducible show wpAny _ _ (call (Value.ref 93) _) _ _ _); first | (k_dflt (refine' ct_use (cond_ctb ?hb_z ?hq_z ?hp_z ?ha_z ?hf_z ?ho_z ?ht_z ?hdd_z) ?B_z ?F_z ?X_z ?N_z ?T_z ?hk_z ?hd_z ?hu_z ?_; (case N_z => k_asm); (case B_z => k_asm); (case F_z => k_asm); (case X_z => k_asm); (case T_z => k_asm); (case hk_z => first | exact rfl | assumption); (case hd_z => (first | omega | (simp only [depth_caller, depth_deeper]; decide) | ((have hcL9 := cLine_is); (simp only [units_caller, units_deeper, Around.mark_units]); omega) | ((try simp only [depth_deeper, units_deeper, depth_in1, units_in1]); omega) | fail "room")); (case hu_z => (first | omega | (simp only [depth_caller, depth_deeper]; decide) | ((have hcL9 := cLine_is); (simp only [units_caller, units_deeper, Around.mark_units]); omega) | ((try simp only [depth_deeper, units_deeper, depth_in1, units_in1]); omega) | fail "room")); (case hq_z => exact AskIs.mono (by assumption) (by (first | ((repeat' (first | assumption | exact List.forall_mem_nil _ | refine sub_app ?_ ?_ | refine sub_cons ?_ ?_ | k_mem | (intro _ _; k_mem))); done) | exact sub_tr (by assumption) (by (repeat' (first | assumption | exact List.forall_mem_nil _ | refine sub_app ?_ ?_ | refine sub_cons ?_ ?_ | k_mem | (intro _ _; k_mem))))))); (case hb_z => assumption); (case hp_z => exact PreIs.mono (by assumption) (by (first | ((repeat' (first | assumption | exact List.forall_mem_nil _ | refine sub_app ?_ ?_ | refine sub_cons ?_ ?_ | k_mem | (intro _ _; k_mem))); done) | exact sub_tr (by assumption) (by (repeat' (first | assumption | exact List.forall_mem_nil _ | refine sub_app ?_ ?_ | refine sub_cons ?_ ?_ | k_mem | (intro _ _; k_mem))))))); (case ha_z => exact AttIs.mono (by assumption) (by (first | ((repeat' (first | assumption | exact List.forall_mem_nil _ | refine sub_app ?_ ?_ | refine sub_cons ?_ ?_ | exact sub_tr (by assumption) (by (repeat' (first | assumption | exact List.forall_mem_nil _ | refine sub_app ?_ ?_ | refine sub_cons ?_ ?_ | k_mem | (intro _ _; k_mem)))) | k_mem | (intro _ _; k_mem))); done) | (first | ((repeat' (first | assumption | exact List.forall_mem_nil _ | refine sub_app ?_ ?_ | refine sub_cons ?_ ?_ | k_mem | (intro _ _; k_mem))); done) | exact sub_tr (by assumption) (by (repeat' (first | assumption | exact List.forall_mem_nil _ | refine sub_app ?_ ?_ | refine sub_cons ?_ ?_ | k_mem | (intro _ _; k_mem)))))))); (case hf_z => exact FactsIs.mono (by assumption) (by (first | ((repeat' (first | assumption | exact List.forall_mem_nil _ | refine sub_app ?_ ?_ | refine sub_cons ?_ ?_ | k_mem | (intro _ _; k_mem))); done) | exact sub_tr (by assumption) (by (repeat' (first | assumption | exact List.forall_mem_nil _ | refine sub_app ?_ ?_ | refine sub_cons ?_ ?_ | k_mem | (intro _ _; k_mem))))))); (case ho_z => assumption); (case ht_z => assumption); (case hdd_z => assumption); intro _ _ _ _ _ _ P9; obtain ⟨en9, e9⟩ := P9; subst en9; subst e9; (try dsimp only))) | refine stop_of ?_)
  k_with "m call ref" => (k_here; (with_reducible show wpAny _ _ (call (Value.ref 108) _) _ _ _); first | (k_dflt (refine' ct_use (chg_ct ?hs_z ?hdd_z ?ha_z ?hsub_z ?hok_z ?hf_z) ?B_z ?F_z ?X_z ?N_z ?T_z ?hk_z ?hd_z ?hu_z ?_; (case N_z => k_asm); (case B_z => k_asm); (case F_z => k_asm); (case X_z => k_asm); (case T_z => k_asm); (case hk_z => first | exact rfl | assumption); (case hd_z => (first | omega | (simp only [depth_caller, depth_deeper]; decide) | ((have hcL9 := cLine_is); (simp only [units_caller, units_deeper, Around.mark_units]); omega) | ((try simp only [depth_deeper, units_deeper, depth_in1, units_in1]); omega) | fail "room")); (case hu_z => (first | omega | (simp only [depth_caller, depth_deeper]; decide) | ((have hcL9 := cLine_is); (simp only [units_caller, units_deeper, Around.mark_units]); omega) | ((try simp only [depth_deeper, units_deeper, depth_in1, units_in1]); omega) | fail "room")); (case hs_z => exact StIs.mono (by assumption) (by (first | ((repeat' (first | assumption | exact List.forall_mem_nil _ | refine sub_app ?_ ?_ | refine sub_cons ?_ ?_ | k_mem | (intro _ _; k_mem))); done) | exact sub_tr (by assumption) (by (repeat' (first | assumption | exact List.forall_mem_nil _ | refine sub_app ?_ ?_ | refine sub_cons ?_ ?_ | k_mem | (intro _ _; k_mem))))))); (case hdd_z => assumption); (case ha_z => assumption); (case hsub_z => (repeat' (first | assumption | exact List.forall_mem_nil _ | refine sub_app ?_ ?_ | refine sub_cons ?_ ?_ | exact sub_tr (by assumption) (by (repeat' (first | assumption | exact List.forall_mem_nil _ | refine sub_app ?_ ?_ | refine sub_cons ?_ ?_ | k_mem | (intro _ _; k_mem)))) | k_mem | (intro _ _; k_mem)))); (case hok_z => assumption); (case hf_z => exact FactsIs.mono (by assumption) (by (first | ((repeat' (first | assumption | exact List.forall_mem_nil _ | refine sub_app ?_ ?_ | refine sub_cons ?_ ?_ | k_mem | (intro _ _; k_mem))); done) | exact sub_tr (by assumption) (by (repeat' (first | assumption | exact List.forall_mem_nil _ | refine sub_app ?_ ?_ | refine sub_cons ?_ ?_ | k_mem | (intro _ _; k_mem))))))); intro _ _ _ _ _ _ P9; obtain ⟨_, en9, _, _, eD9, _⟩ := P9; subst en9; subst eD9; (try dsimp only))) | refine stop_of ?_)
  k_with "m call ref" => (k_here; (with_reducible show wpAny _ _ (call (Value.ref 115) _) _ _ _); first | (k_dflt (refine' ct_use ((by assumption : ∀ k', k' < _ → RunCt _ _ k') _ ?hkn_z ?hta_z ?hss_z ?hln_z ?hp_z ?ha_z ?hsub_z ?hok_z ?hf_z ?ho_z ?ht_z) ?B_z ?F_z ?X_z ?N_z ?T_z ?hk_z ?hd_z ?hu_z ?_; (case N_z => k_asm); (case B_z => k_asm); (case F_z => k_asm); (case X_z => k_asm); (case T_z => k_asm); (case hk_z => first | exact rfl | assumption); (case hkn_z => assumption); (case hta_z => k_mem); (case hss_z => exact SIs.mono (by assumption) (by (first | ((repeat' (first | assumption | exact List.forall_mem_nil _ | refine sub_app ?_ ?_ | refine sub_cons ?_ ?_ | k_mem | (intro _ _; k_mem))); done) | exact sub_tr (by assumption) (by (repeat' (first | assumption | exact List.forall_mem_nil _ | refine sub_app ?_ ?_ | refine sub_cons ?_ ?_ | k_mem | (intro _ _; k_mem))))))); (case hln_z => assumption); (case hp_z => exact PreIs.mono (by assumption) (by (first | ((repeat' (first | assumption | exact List.forall_mem_nil _ | refine sub_app ?_ ?_ | refine sub_cons ?_ ?_ | k_mem | (intro _ _; k_mem))); done) | exact sub_tr (by assumption) (by (repeat' (first | assumption | exact List.forall_mem_nil _ | refine sub_app ?_ ?_ | refine sub_cons ?_ ?_ | k_mem | (intro _ _; k_mem))))))); (case ha_z => assumption); (case hsub_z => (repeat' (first | assumption | exact List.forall_mem_nil _ | refine sub_app ?_ ?_ | refine sub_cons ?_ ?_ | exact sub_tr (by assumption) (by (repeat' (first | assumption | exact List.forall_mem_nil _ | refine sub_app ?_ ?_ | refine sub_cons ?_ ?_ | k_mem | (intro _ _; k_mem)))) | k_mem | (intro _ _; k_mem)))); (case hok_z => assumption); (case hf_z => exact FactsIs.mono (by assumption) (by (first | ((repeat' (first | assumption | exact List.forall_mem_nil _ | refine sub_app ?_ ?_ | refine sub_cons ?_ ?_ | k_mem | (intro _ _; k_mem))); done) | exact sub_tr (by assumption) (by (repeat' (first | assumption | exact List.forall_mem_nil _ | refine sub_app ?_ ?_ | refine sub_cons ?_ ?_ | k_mem | (intro _ _; k_mem))))))); (case ho_z => assumption); (case ht_z => assumption); (case hd_z => (first | omega | (simp only [depth_caller, depth_deeper]; decide) | ((have hcL9 := cLine_is); (simp only [units_caller, units_deeper, Around.mark_units]); omega) | ((try simp only [depth_deeper, units_deeper, depth_in1, units_in1]); omega) | fail "room")); (case hu_z => (first | omega | (simp only [depth_caller, depth_deeper]; decide) | ((have hcL9 := cLine_is); (simp only [units_caller, units_deeper, Around.mark_units]); omega) | ((try simp only [depth_deeper, units_deeper, depth_in1, units_in1]); omega) | fail "room")); intro _ _ _ _ _ _ P9; obtain ⟨_, en9, _, _, _, _, eD9, _, _⟩ := P9; subst en9; subst eD9; (try dsimp only))) | refine stop_of ?_)
  k_with "m pyIter ref" => refine stop_of ?_
  k_with "m UnrEnd" => refine stop_of ?_
  k_with "m exec For Name Name cons nil" => (k_here; (rename Fr _ _ _ _ => lF'); (with_unfolding_all refine' For_invVF lF' ?k1_z ?k2_z ?_; (case k1_z => exact rfl); (case k2_z => exact rfl); k_whole))
  trivial
theorem run_step {w : World} {e : Cx} {n : Nat} (hn9 : n ≤ 9) (ih : ∀ k, k < n → RunCt w e k) : RunCt w e n := by
  unfold RunCt
  intro ta pa at' fa svs xs r news N₀ hta hss hln hp ha hsub hok hf ho ht
  unfold Ct
  k_fill
  intro mean mg mb dp un gd cn cs a ccd cl outer A₀ base h₀ L m s Q E B F X N T hk hd hu hret
  refine wpAny_call ?_
  k_dflt ktr_enter
  k_steps
  unfold Stop
  rename Fr _ _ _ _ => F1
  rename News _ _ _ _ => N1
  refine iter_tup (RJ w e news N₀ xs r _) rfl F1 N1 hta (RJ.start (by with_unfolding_all rfl) ha ⟨hok, ho, ht⟩) ?hjt ?turn ?done
  case hjt =>
    rintro i m' n' ⟨sv, ev, hv, D, tl, q, rfl, rfl, l0, hD, hg, hrun⟩
    exact List.mem_append_right _ hta
  case turn =>
    clear F1 N1
    rintro I io i v m₁ news₁ h tk hlI hiv ⟨sv, ev, hv, D, tl, q, rfl, rfl, l0, hD, hg, hrun⟩ hoff F1 N1
    obtain ⟨x, hx, hxs, hxk⟩ := hss.get hiv
    obtain ⟨gok, gorg, gtwo⟩ := hg
    cases sv_of (e := e) hxs hxk
    case acc => (have hD9 := hD; k_steps; have hpe := run_hit hrun hx rfl (by decide); ((rename Fr _ _ _ _ => F5); (rename News _ _ _ _ => N5); refine run_end hret F5 N5 hD9 hpe (by k_mem) (by rfl) (by (repeat' (first | assumption | exact List.forall_mem_nil _ | refine sub_app ?_ ?_ | refine sub_cons ?_ ?_ | k_mem | (intro _ _; k_mem)))) (all_sub (by assumption) (by (repeat' (first | assumption | exact List.forall_mem_nil _ | refine sub_app ?_ ?_ | refine sub_cons ?_ ?_ | k_mem | (intro _ _; k_mem))))) ?_); exact l0)
    case rej => (have hD9 := hD; k_steps; have hpe := run_hit hrun hx rfl (by decide); ((rename Fr _ _ _ _ => F5); (rename News _ _ _ _ => N5); refine run_end hret F5 N5 hD9 hpe (by k_mem) (by rfl) (by (repeat' (first | assumption | exact List.forall_mem_nil _ | refine sub_app ?_ ?_ | refine sub_cons ?_ ?_ | k_mem | (intro _ _; k_mem)))) (all_sub (by assumption) (by (repeat' (first | assumption | exact List.forall_mem_nil _ | refine sub_app ?_ ?_ | refine sub_cons ?_ ?_ | k_mem | (intro _ _; k_mem))))) ?_); exact l0)
    case nxt => (have hD9 := hD; k_steps; have hpe := run_hit hrun hx rfl (by decide); ((rename Fr _ _ _ _ => F5); (rename News _ _ _ _ => N5); refine run_end hret F5 N5 hD9 hpe (by k_mem) (by rfl) (by (repeat' (first | assumption | exact List.forall_mem_nil _ | refine sub_app ?_ ?_ | refine sub_cons ?_ ?_ | k_mem | (intro _ _; k_mem)))) (all_sub (by assumption) (by (repeat' (first | assumption | exact List.forall_mem_nil _ | refine sub_app ?_ ?_ | refine sub_cons ?_ ?_ | k_mem | (intro _ _; k_mem))))) ?_); exact l0)
    case clear => (have hd9 := deed_run (e := e) (by assumption) q; k_steps; unfold Stop; (rename Fr _ _ _ _ => F5); (rename News _ _ _ _ => N5); (rename AttIs _ (_ ++ (_ ++ _)) _ _ => hA5); (have hg9 := RGood.step (e := e) ⟨gok, gorg, gtwo⟩ x); rw [hd9] at hg9; exact RJ.close F5 N5 (by (repeat' (first | assumption | exact List.forall_mem_nil _ | refine sub_app ?_ ?_ | refine sub_cons ?_ ?_ | k_mem | (intro _ _; k_mem)))) (fun y h1 h2 h3 h4 => by simp [h1, h2, h3, h4]) (by with_unfolding_all rfl) hoff l0 (by assumption) hA5 hg9 hrun hx hd9)
    case cond =>
      rename ∀ r, run1 e x r = _ => hr9
      have h1 := hr9 q
      cases hb : Ask.ev e _
      all_goals rw [hb] at h1
      all_goals simp only [if_true, Bool.false_eq_true, if_false] at h1
      all_goals k_steps
      all_goals first
        | (rename ((Prod.fst _ : Nat) : Int) ≠ 0 => hne
           rename AttIs _ (_ ++ (_ ++ _)) _ _ => hA5
           have hpe := run_hit hrun hx h1 (by omega)
           have hD9 := hA5
           rw [← List.append_assoc] at hD9
           ((rename Fr _ _ _ _ => F5); (rename News _ _ _ _ => N5); refine run_end hret F5 N5 hD9 hpe (by k_mem) (by rfl) (by (repeat' (first | assumption | exact List.forall_mem_nil _ | refine sub_app ?_ ?_ | refine sub_cons ?_ ?_ | k_mem | (intro _ _; k_mem)))) (all_sub (by assumption) (by (repeat' (first | assumption | exact List.forall_mem_nil _ | refine sub_app ?_ ?_ | refine sub_cons ?_ ?_ | k_mem | (intro _ _; k_mem))))) ?_)
           exact l_two (by assumption) l0)
        | (unfold Stop
           rename AttIs _ (_ ++ (_ ++ _)) _ _ => hA5
           rename ((Prod.fst _ : Nat) : Int) = 0 => heq
           rename Fr _ _ _ _ => F5
           rename News _ _ _ _ => N5
           have hg9 := RGood.step (e := e) ⟨gok, gorg, gtwo⟩ x
           have h2 := h1.trans (zero_pair heq)
           rw [h2] at hg9
           exact RJ.close F5 N5 (by (repeat' (first | assumption | exact List.forall_mem_nil _ | refine sub_app ?_ ?_ | refine sub_cons ?_ ?_ | k_mem | (intro _ _; k_mem)))) (fun y h1 h2 h3 h4 => by simp [h1, h2, h3, h4]) (by with_unfolding_all rfl) hoff l0 (by assumption) hA5 hg9 hrun hx h2)
    case set => (have hd9 := deed_run (e := e) (by assumption) q; k_steps; unfold Stop; (rename Fr _ _ _ _ => F5); (rename News _ _ _ _ => N5); (rename AttIs _ (_ ++ (_ ++ _)) _ _ => hA5); (have hg9 := RGood.step (e := e) ⟨gok, gorg, gtwo⟩ x); rw [hd9] at hg9; exact RJ.close F5 N5 (by (repeat' (first | assumption | exact List.forall_mem_nil _ | refine sub_app ?_ ?_ | refine sub_cons ?_ ?_ | k_mem | (intro _ _; k_mem)))) (fun y h1 h2 h3 h4 => by simp [h1, h2, h3, h4]) (by with_unfolding_all rfl) hoff l0 (by assumption) hA5 hg9 hrun hx hd9)
    case add => (have hd9 := deed_run (e := e) (by assumption) q; k_steps; unfold Stop; (rename Fr _ _ _ _ => F5); (rename News _ _ _ _ => N5); (rename AttIs _ (_ ++ (_ ++ _)) _ _ => hA5); (have hg9 := RGood.step (e := e) ⟨gok, gorg, gtwo⟩ x); rw [hd9] at hg9; exact RJ.close F5 N5 (by (repeat' (first | assumption | exact List.forall_mem_nil _ | refine sub_app ?_ ?_ | refine sub_cons ?_ ?_ | k_mem | (intro _ _; k_mem)))) (fun y h1 h2 h3 h4 => by simp [h1, h2, h3, h4]) (by with_unfolding_all rfl) hoff l0 (by assumption) hA5 hg9 hrun hx hd9)
    case drop => (have hd9 := deed_run (e := e) (by assumption) q; k_steps; unfold Stop; (rename Fr _ _ _ _ => F5); (rename News _ _ _ _ => N5); (rename AttIs _ (_ ++ (_ ++ _)) _ _ => hA5); (have hg9 := RGood.step (e := e) ⟨gok, gorg, gtwo⟩ x); rw [hd9] at hg9; exact RJ.close F5 N5 (by (repeat' (first | assumption | exact List.forall_mem_nil _ | refine sub_app ?_ ?_ | refine sub_cons ?_ ?_ | k_mem | (intro _ _; k_mem)))) (fun y h1 h2 h3 h4 => by simp [h1, h2, h3, h4]) (by with_unfolding_all rfl) hoff l0 (by assumption) hA5 hg9 hrun hx hd9)
  case done =>
    clear F1 N1
    rintro m₁ news₁ h tk ⟨sv, ev, hv, D, tl, q, rfl, rfl, l0, hD, hg, hrun⟩ F1 N1
    have hD9 := hD
    have hpe : runL e xs r = (0, q) := by rw [hrun, hss.length, List.drop_length]; rfl
    k_steps
    ((rename Fr _ _ _ _ => F5); (rename News _ _ _ _ => N5); refine run_end hret F5 N5 hD9 hpe (by k_mem) (by rfl) (by (repeat' (first | assumption | exact List.forall_mem_nil _ | refine sub_app ?_ ?_ | refine sub_cons ?_ ?_ | k_mem | (intro _ _; k_mem)))) (all_sub (by assumption) (by (repeat' (first | assumption | exact List.forall_mem_nil _ | refine sub_app ?_ ?_ | refine sub_cons ?_ ?_ | k_mem | (intro _ _; k_mem))))) ?_)
    exact l0
end

section
variable {prog : Program} {w : World} {A : Around} {E : Value → Shared → Prop} {s : Shared} {env : PySem.Env} {h₀ : Heap} {target : PySem.Expr} {body : List Stmt} {Q : Flow → Shared → Prop}
theorem kwitems36 : True := by
  k_with_none
  k_with "m call builtin:len" => (k_here; (with_reducible show wpAny _ _ (call (Value.builtin "len") [Value.ref _]) _ _ _); k_dflt (refine' len_led ?k1_z ?k2_z ?k3_z ?k4_z ?_; (case k1_z => k_asm); (case k2_z => k_mem); (case k3_z => with_reducible assumption); (case k4_z => omega)))
  k_with "m ite" => (k_closed; with_reducible (first | refine ite_tt ?_ | refine ite_ff ?_ | refine PySem.W.ite_neg (by decide) ?_ | refine PySem.W.ite_pos (by decide) ?_))
  k_with "m subscriptTail" => (k_here; (with_reducible show wpAny _ _ (subscriptTail _ _ (Value.ref _) (Value.int _ _)) _ _ _); k_dflt (first | (refine' sub_list ?N_z ?m_z ?a_z ?b_z ?x_z ?s_z ?_; (case N_z => k_asm); (case m_z => k_mem); (case a_z => decide); (case b_z => decide); (case x_z => rfl); (case s_z => with_unfolding_all rfl)) | (refine' sub_tup ?N_z ?m_z ?a_z ?b_z ?j_z ?x_z ?s_z ?_; (case N_z => k_asm); (case m_z => k_mem); (case a_z => decide); (case b_z => decide); (case j_z => rfl); (case x_z => rfl); (case s_z => with_unfolding_all rfl))))
  k_with "m subscriptTail Name Call ref int" => (k_here; (with_reducible show wpAny _ _ (subscriptTail _ _ (Value.ref _) (Value.int _ _)) _ _ _); k_dflt (first | (refine' sub_list_any ?N_z ?m_z ?a_z ?b_z ?z_z ?s_z ?_; (case N_z => k_asm); (case m_z => k_mem); (case a_z => omega); (case b_z => first | (simp only [List.length_cons, List.length_nil]; omega) | (simp only [List.length_append, List.length_cons, List.length_nil]; omega) | (simp only [List.length_append]; omega)); (case z_z => first | exact Nat.le_of_ble_eq_true rfl | (simp only [List.length_append, List.length_cons, List.length_nil]; omega) | (simp only [List.length_append]; omega)); (case s_z => with_unfolding_all rfl)) | (refine' sub_tup_any ?N_z ?m_z ?a_z ?b_z ?z_z ?s_z ?_; (case N_z => k_asm); (case m_z => k_mem); (case a_z => omega); (case b_z => first | (simp only [List.length_cons, List.length_nil]; omega) | (simp only [List.length_append, List.length_cons, List.length_nil]; omega) | (simp only [List.length_append]; omega)); (case z_z => first | exact Nat.le_of_ble_eq_true rfl | (simp only [List.length_append, List.length_cons, List.length_nil]; omega) | (simp only [List.length_append]; omega)); (case s_z => with_unfolding_all rfl))); intro _ _)
  k_with "m subscriptTail Tuple" => (k_here; (with_reducible show wpAny _ _ (subscriptTail _ _ (Value.ref _) (Value.int _ _)) _ _ _); k_dflt (first | (refine' sub_list_any ?N_z ?m_z ?a_z ?b_z ?z_z ?s_z ?_; (case N_z => k_asm); (case m_z => k_mem); (case a_z => omega); (case b_z => first | (simp only [List.length_cons, List.length_nil]; omega) | (simp only [List.length_append, List.length_cons, List.length_nil]; omega) | (simp only [List.length_append]; omega)); (case z_z => first | exact Nat.le_of_ble_eq_true rfl | (simp only [List.length_append, List.length_cons, List.length_nil]; omega) | (simp only [List.length_append]; omega)); (case s_z => with_unfolding_all rfl)) | (refine' sub_tup_any ?N_z ?m_z ?a_z ?b_z ?z_z ?s_z ?_; (case N_z => k_asm); (case m_z => k_mem); (case a_z => omega); (case b_z => first | (simp only [List.length_cons, List.length_nil]; omega) | (simp only [List.length_append, List.length_cons, List.length_nil]; omega) | (simp only [List.length_append]; omega)); (case z_z => first | exact Nat.le_of_ble_eq_true rfl | (simp only [List.length_append, List.length_cons, List.length_nil]; omega) | (simp only [List.length_append]; omega)); (case s_z => with_unfolding_all rfl))); intro _ _)
  k_with "m subscriptTail List" => (k_here; (with_reducible show wpAny _ _ (subscriptTail _ _ (Value.ref _) (Value.int _ _)) _ _ _); k_dflt (first | (refine' sub_list_any ?N_z ?m_z ?a_z ?b_z ?z_z ?s_z ?_; (case N_z => k_asm); (case m_z => k_mem); (case a_z => omega); (case b_z => first | (simp only [List.length_cons, List.length_nil]; omega) | (simp only [List.length_append, List.length_cons, List.length_nil]; omega) | (simp only [List.length_append]; omega)); (case z_z => first | exact Nat.le_of_ble_eq_true rfl | (simp only [List.length_append, List.length_cons, List.length_nil]; omega) | (simp only [List.length_append]; omega)); (case s_z => with_unfolding_all rfl)) | (refine' sub_tup_any ?N_z ?m_z ?a_z ?b_z ?z_z ?s_z ?_; (case N_z => k_asm); (case m_z => k_mem); (case a_z => omega); (case b_z => first | (simp only [List.length_cons, List.length_nil]; omega) | (simp only [List.length_append, List.length_cons, List.length_nil]; omega) | (simp only [List.length_append]; omega)); (case z_z => first | exact Nat.le_of_ble_eq_true rfl | (simp only [List.length_append, List.length_cons, List.length_nil]; omega) | (simp only [List.length_append]; omega)); (case s_z => with_unfolding_all rfl))); intro _ _)
  k_with "m execs cons" => (k_here; (with_reducible show wpAny _ _ _ _ _ (Shared.mk _ _ _ (_ + 1) _)); refine gen_toks ?_; intro (tk : Nat))
  trivial
theorem unrW_mono {L : Addr} {its : Led} {s₁ : Shared} {R R' : (Str → Option Value) → Led → Prop} (h : ∀ m n, (∀ p ∈ n, ∀ q ∈ its, p.1 ≠ q.1) → R m n → R' m n) {f : Flow} {s₂ : Shared} (x : UnrPostW h₀ L s₁ its R Q f s₂) : UnrPostW h₀ L s₁ its R' Q f s₂ := by
  cases f with
  | ret v => exact x
  | brk => exact x
  | next =>
    obtain ⟨a1, a2, a3, a4, a5, a6, a7, a8, a9⟩ := x
    exact ⟨a1, a2, a3, a4, a5, a6, a7, a8, h _ _ a8 a9⟩
  | cont =>
    obtain ⟨a1, a2, a3, a4, a5, a6, a7, a8, a9⟩ := x
    exact ⟨a1, a2, a3, a4, a5, a6, a7, a8, h _ _ a8 a9⟩
theorem items_inv {I : Addr} {keep : Led} (J : List Value → (Str → Option Value) → Led → Prop)
    (turn : ∀ v r m₁ news₁ io h tk, J (v :: r) m₁ news₁ → (∀ p ∈ news₁, p.1 ≠ I) → Fr h₀ env.locals h m₁ → News h₀ env.locals h ((I, io) :: news₁) →
      wpAny (model prog w) A (assign target env v) (fun _ s₂ => wpAny (model prog w) A (execs body env) (UnrPostW h₀ env.locals { s with heap := h, toks := tk } [(I, io)] (fun m' n' => SubL keep n' ∧ J r m' n') Q) E s₂) E { s with heap := h, toks := tk })
    (done : ∀ m₁ news₁ h tk, J [] m₁ news₁ → Fr h₀ env.locals h m₁ → News h₀ env.locals h news₁ → Q .next { s with heap := h, toks := tk }) :
    ∀ (r : List Value) (m₁ : Str → Option Value) (news₁ : Led), J r m₁ news₁ → (∀ p ∈ news₁, p.1 ≠ I) → ItemsRest prog w A E h₀ env target body Q s [(I, "tuple_iterator")] keep (r.map .val) m₁ news₁
  | [], m₁, news₁, hj, _ => ItemsRest.zero fun h tk F N => done m₁ news₁ h tk hj F N
  | v :: r, m₁, news₁, hj, ho => ItemsRest.val fun h tk F => AllObj.cons fun io _ => AllObj.nil fun N =>
      wpAny_mono (turn v r m₁ news₁ io h tk hj ho F N) (fun _ s₂ x => wpAny_mono x (fun f s₃ y => unrW_mono (fun m' n' o z => ⟨z.1, items_inv J turn done r m' n' z.2 fun p hp => o p hp (I, io) List.mem_cons_self⟩) y) fun _ _ e => e) fun _ _ e => e
theorem iter_tupJ {t : Addr} {vs : List Value} {m₀ : Str → Option Value} {news : Led} (J : List Value → (Str → Option Value) → Led → Prop)
    (hh : A.handled = none) (F : Fr h₀ env.locals s.heap m₀) (N : News h₀ env.locals s.heap news) (ht : (t, tupO vs) ∈ news) (hj : J vs m₀ news)
    (turn : ∀ I v r m₁ news₁ io h tk, (∀ p ∈ news, @LT.lt Nat _ p.1 I) → J (v :: r) m₁ news₁ → (∀ p ∈ news₁, p.1 ≠ I) → Fr h₀ env.locals h m₁ → News h₀ env.locals h ((I, io) :: news₁) →
      wpAny (model prog w) A (assign target env v) (fun _ s₂ => wpAny (model prog w) A (execs body env) (UnrPostW h₀ env.locals { s with heap := h, toks := tk } [(I, io)] (fun m' n' => SubL [(t, tupO vs)] n' ∧ J r m' n') Q) E s₂) E { s with heap := h, toks := tk })
    (done : ∀ m₁ news₁ h tk, J [] m₁ news₁ → Fr h₀ env.locals h m₁ → News h₀ env.locals h news₁ → Q .next { s with heap := h, toks := tk }) :
    wpAny (model prog w) A (pyIter (.ref t)) (fun it s₂ => TurnsAt prog w A h₀ env target body Q E it s₂) E s :=
  iter_tupTurns (n := 0) hh F N ht rfl rfl fun I hI => items_inv J (fun v r m₁ news₁ io h tk a o b c => turn I v r m₁ news₁ io h tk hI a o b c) done vs m₀ news hj fun p hp => Nat.ne_of_lt (hI p hp)
end
theorem run_ct {w : World} {e : Cx} : ∀ n, n ≤ 9 → RunCt w e n := by
  have all : ∀ m n, n < m → n ≤ 9 → RunCt w e n := by
    intro m
    induction m with
    | zero => intro n h; exact absurd h (Nat.not_lt_zero _)
    | succ m ih => intro n h h9; exact @run_step w e n h9 fun k hk => ih k (by omega) (by omega)
  exact fun n h => all (n + 1) n (Nat.lt_succ_self n) h
def PolPost (w : World) (news N₀ : Led) (o : Option Rt) : Value → Led → Prop := fun r news' => ∃ tl, news' = tl ++ news ∧ (∀ q ∈ tl, ∀ p ∈ news, @LT.lt Nat _ p.1 q.1) ∧ match o with
  | none => r = .none
  | some q => ∃ D, r = .ref D ∧ AttIs w (tl ++ N₀) D q
def PolJ (w : World) (e : Cx) (c : Bool) (news N₀ : Led) (terms : List (List St)) (r : Rt) (m₀ : Str → Option Value) (rest : List Value) (m : Str → Option Value) (news' : Led) : Prop :=
  ∃ nv sv ev D tl q xs, m = (fun y => if y = Str.ofString "name" then nv else if y = Str.ofString "statements" then sv else if y = Str.ofString "ended" then ev else if y = Str.ofString "attrs" then some (.ref D) else m₀ y) ∧
    news' = tl ++ news ∧ (∀ q ∈ tl, ∀ p ∈ news, @LT.lt Nat _ p.1 q.1) ∧ AttIs w (tl ++ N₀) D q ∧ RGood e q ∧ TermsIs news rest xs ∧ runT e c terms r = runT e c xs q
theorem PolJ.start {w : World} {e : Cx} {c : Bool} {news N₀ : Led} {terms : List (List St)} {r : Rt} {m₀ : Str → Option Value} {D : Addr} {vs : List Value} (h : m₀ (Str.ofString "attrs") = some (.ref D)) (ha : AttIs w N₀ D r) (g : RGood e r) (ht : TermsIs news vs terms) : PolJ w e c news N₀ terms r m₀ vs m₀ news :=
  ⟨m₀ (Str.ofString "name"), m₀ (Str.ofString "statements"), m₀ (Str.ofString "ended"), D, [], r, terms, by
    funext y
    (repeat' split) <;> first | rfl | (rename_i h'; rw [h']; done) | (rename_i h'; rw [h', h]), rfl, (fun _ h => absurd h List.not_mem_nil), ha, g, ht, rfl⟩
theorem runL_good {e : Cx} {xs : List St} {q : Rt} (g : RGood e q) : RGood e (runL e xs q).2 := by
  obtain ⟨k, f, hf, hr⟩ := runL_shape e xs
  rw [hr]
  exact ⟨hf.ok _ g.ok, (hf.org q).trans g.org, (hf.two q).trans g.two⟩
theorem PolJ.close {w : World} {e : Cx} {c : Bool} {news N₀ : Led} {terms xs' : List (List St)} {r q : Rt} {m₀ m' : Str → Option Value} {D : Addr} {tl tl9 : Led} {x : List St} {rest : List Value} {p₀ : Addr × Obj}
    (em : ∀ y, y ≠ Str.ofString "name" → y ≠ Str.ofString "statements" → y ≠ Str.ofString "ended" → y ≠ Str.ofString "attrs" → m' y = m₀ y)
    (ea : m' (Str.ofString "attrs") = some (.ref D)) (l0 : ∀ q ∈ tl, ∀ p ∈ news, @LT.lt Nat _ p.1 q.1) (l9 : ∀ q ∈ tl9, ∀ p ∈ p₀ :: (tl ++ news), @LT.lt Nat _ p.1 q.1)
    (ha : AttIs w (tl9 ++ (tl ++ N₀)) D (runL e x q).2) (g : RGood e q) (ht : TermsIs news rest xs') (hrun : runT e c terms r = runT e c (x :: xs') q) (h1 : (runL e x q).1 ≠ 1) (h2 : (runL e x q).1 ≠ 2) :
    PolJ w e c news N₀ terms r m₀ rest m' (tl9 ++ (tl ++ news)) := by
  have em' : m' = (fun y => if y = Str.ofString "name" then m' (Str.ofString "name") else if y = Str.ofString "statements" then m' (Str.ofString "statements") else if y = Str.ofString "ended" then m' (Str.ofString "ended") else if y = Str.ofString "attrs" then some (.ref D) else m₀ y) := by
    funext y
    (repeat' split) <;> first | (rename_i h; rw [h]; done) | (rename_i h; rw [h, ea]) | exact em y (by assumption) (by assumption) (by assumption) (by assumption)
  refine ⟨_, _, _, D, tl9 ++ tl, _, xs', em', (List.append_assoc ..).symm, l_two l9 l0, by rw [List.append_assoc]; exact ha, runL_good g, ht, ?_⟩
  rw [hrun]
  simp only [runT, if_neg h1, if_neg h2]
theorem pol_hit {e : Cx} {c : Bool} {terms xs' : List (List St)} {r q : Rt} {x : List St} (hrun : runT e c terms r = runT e c (x :: xs') q) (h1 : (runL e x q).1 = 1) : runT e c terms r = some (runL e x q).2 := by
  rw [hrun]; simp only [runT, if_pos h1]
theorem pol_miss {e : Cx} {c : Bool} {terms xs' : List (List St)} {r q : Rt} {x : List St} (hrun : runT e c terms r = runT e c (x :: xs') q) (h2 : (runL e x q).1 = 2) : runT e c terms r = none := by
  rw [hrun]; simp only [runT, h2]; rfl
theorem pol_some {w : World} {news N₀ : Led} {o : Option Rt} {q' : Rt} {h₀ h' : Heap} {L D : Addr} {m : Str → Option Value} {s : Shared} {Q : Value → Shared → Prop} {full tls : Led} {tk' : Nat}
    (hret : ∀ r news' h' tk', Fr h₀ L h' m → News h₀ L h' news' → PolPost w news N₀ o r news' → Q r { s with heap := h', toks := tk' })
    (F : Fr h₀ L h' m) (N : News h₀ L h' full) (ha : AttIs w (tls ++ N₀) D q') (hp : o = some q') (hsub : ∀ p ∈ tls ++ news, p ∈ full) (l : ∀ q ∈ tls, ∀ p ∈ news, @LT.lt Nat _ p.1 q.1) : Q (.ref D) { s with heap := h', toks := tk' } := by
  subst hp
  exact hret _ (tls ++ news) _ _ F (newsSub N hsub) ⟨tls, rfl, l, D, rfl, ha⟩
theorem pol_none {w : World} {news N₀ : Led} {o : Option Rt} {h₀ h' : Heap} {L : Addr} {m : Str → Option Value} {s : Shared} {Q : Value → Shared → Prop} {full : Led} {tk' : Nat}
    (hret : ∀ r news' h' tk', Fr h₀ L h' m → News h₀ L h' news' → PolPost w news N₀ o r news' → Q r { s with heap := h', toks := tk' })
    (F : Fr h₀ L h' m) (N : News h₀ L h' full) (hp : o = none) (hsub : ∀ p ∈ news, p ∈ full) : Q .none { s with heap := h', toks := tk' } := by
  subst hp
  exact hret _ ([] ++ news) _ _ F (newsSub N hsub) ⟨[], rfl, fun _ h => absurd h List.not_mem_nil, rfl⟩

theorem kwpolrun37 : True := by
  k_with_none
  k_with "m call builtin:len" => (k_here; (with_reducible show wpAny _ _ (call (Value.builtin "len") [Value.ref _]) _ _ _); k_dflt (refine' len_led ?k1_z ?k2_z ?k3_z ?k4_z ?_; (case k1_z => k_asm); (case k2_z => k_mem); (case k3_z => with_reducible assumption); (case k4_z => omega)))
  k_with "m ite" => (k_closed; with_reducible (first | refine ite_tt ?_ | refine ite_ff ?_ | refine PySem.W.ite_neg (by decide) ?_ | refine PySem.W.ite_pos (by decide) ?_))
  k_with "m subscriptTail" => (k_here; (with_reducible show wpAny _ _ (subscriptTail _ _ (Value.ref _) (Value.int _ _)) _ _ _); k_dflt (first | (refine' sub_list ?N_z ?m_z ?a_z ?b_z ?x_z ?s_z ?_; (case N_z => k_asm); (case m_z => k_mem); (case a_z => decide); (case b_z => decide); (case x_z => rfl); (case s_z => with_unfolding_all rfl)) | (refine' sub_tup ?N_z ?m_z ?a_z ?b_z ?j_z ?x_z ?s_z ?_; (case N_z => k_asm); (case m_z => k_mem); (case a_z => decide); (case b_z => decide); (case j_z => rfl); (case x_z => rfl); (case s_z => with_unfolding_all rfl))))
  k_with "m subscriptTail Name Call ref int" => (k_here; (with_reducible show wpAny _ _ (subscriptTail _ _ (Value.ref _) (Value.int _ _)) _ _ _); k_dflt (first | (refine' sub_list_any ?N_z ?m_z ?a_z ?b_z ?z_z ?s_z ?_; (case N_z => k_asm); (case m_z => k_mem); (case a_z => omega); (case b_z => first | (simp only [List.length_cons, List.length_nil]; omega) | (simp only [List.length_append, List.length_cons, List.length_nil]; omega) | (simp only [List.length_append]; omega)); (case z_z => first | exact Nat.le_of_ble_eq_true rfl | (simp only [List.length_append, List.length_cons, List.length_nil]; omega) | (simp only [List.length_append]; omega)); (case s_z => with_unfolding_all rfl)) | (refine' sub_tup_any ?N_z ?m_z ?a_z ?b_z ?z_z ?s_z ?_; (case N_z => k_asm); (case m_z => k_mem); (case a_z => omega); (case b_z => first | (simp only [List.length_cons, List.length_nil]; omega) | (simp only [List.length_append, List.length_cons, List.length_nil]; omega) | (simp only [List.length_append]; omega)); (case z_z => first | exact Nat.le_of_ble_eq_true rfl | (simp only [List.length_append, List.length_cons, List.length_nil]; omega) | (simp only [List.length_append]; omega)); (case s_z => with_unfolding_all rfl))); intro _ _)
  k_with "m subscriptTail Tuple" => (k_here; (with_reducible show wpAny _ _ (subscriptTail _ _ (Value.ref _) (Value.int _ _)) _ _ _); k_dflt (first | (refine' sub_list_any ?N_z ?m_z ?a_z ?b_z ?z_z ?s_z ?_; (case N_z => k_asm); (case m_z => k_mem); (case a_z => omega); (case b_z => first | (simp only [List.length_cons, List.length_nil]; omega) | (simp only [List.length_append, List.length_cons, List.length_nil]; omega) | (simp only [List.length_append]; omega)); (case z_z => first | exact Nat.le_of_ble_eq_true rfl | (simp only [List.length_append, List.length_cons, List.length_nil]; omega) | (simp only [List.length_append]; omega)); (case s_z => with_unfolding_all rfl)) | (refine' sub_tup_any ?N_z ?m_z ?a_z ?b_z ?z_z ?s_z ?_; (case N_z => k_asm); (case m_z => k_mem); (case a_z => omega); (case b_z => first | (simp only [List.length_cons, List.length_nil]; omega) | (simp only [List.length_append, List.length_cons, List.length_nil]; omega) | (simp only [List.length_append]; omega)); (case z_z => first | exact Nat.le_of_ble_eq_true rfl | (simp only [List.length_append, List.length_cons, List.length_nil]; omega) | (simp only [List.length_append]; omega)); (case s_z => with_unfolding_all rfl))); intro _ _)
  k_with "m subscriptTail List" => (k_here; (with_reducible show wpAny _ _ (subscriptTail _ _ (Value.ref _) (Value.int _ _)) _ _ _); k_dflt (first | (refine' sub_list_any ?N_z ?m_z ?a_z ?b_z ?z_z ?s_z ?_; (case N_z => k_asm); (case m_z => k_mem); (case a_z => omega); (case b_z => first | (simp only [List.length_cons, List.length_nil]; omega) | (simp only [List.length_append, List.length_cons, List.length_nil]; omega) | (simp only [List.length_append]; omega)); (case z_z => first | exact Nat.le_of_ble_eq_true rfl | (simp only [List.length_append, List.length_cons, List.length_nil]; omega) | (simp only [List.length_append]; omega)); (case s_z => with_unfolding_all rfl)) | (refine' sub_tup_any ?N_z ?m_z ?a_z ?b_z ?z_z ?s_z ?_; (case N_z => k_asm); (case m_z => k_mem); (case a_z => omega); (case b_z => first | (simp only [List.length_cons, List.length_nil]; omega) | (simp only [List.length_append, List.length_cons, List.length_nil]; omega) | (simp only [List.length_append]; omega)); (case z_z => first | exact Nat.le_of_ble_eq_true rfl | (simp only [List.length_append, List.length_cons, List.length_nil]; omega) | (simp only [List.length_append]; omega)); (case s_z => with_unfolding_all rfl))); intro _ _)
  k_with "m execs cons" => (k_here; (with_reducible show wpAny _ _ _ _ _ (Shared.mk _ _ _ (_ + 1) _)); refine gen_toks ?_; intro (tk : Nat))
  trivial
theorem pol_parts {N : Led} {v : Value} {terms : List (List St)} {c : Bool} (h : PolIs N v terms c) : ∃ p ts fb tvs t1 word, v = .ref p ∧ (p, tupO [.ref ts, .ref fb]) ∈ N ∧ (ts, tupO tvs) ∈ N ∧ (fb, tupO [.str word t1]) ∈ N ∧ TermsIs N tvs terms ∧ ((word = Str.ofString "accept" ∧ c = true) ∨ (word = Str.ofString "reject" ∧ c = false)) := by
  cases h with
  | acc h ht hf k hl => exact ⟨_, _, _, _, _, _, rfl, h, ht, hf, k, .inl ⟨rfl, rfl⟩⟩
  | rej h ht hf k hl => exact ⟨_, _, _, _, _, _, rfl, h, ht, hf, k, .inr ⟨rfl, rfl⟩⟩
section
theorem kwpolrun38 : True := by
  k_with_none
  k_with "m call builtin:len" => (k_here; (with_reducible show wpAny _ _ (call (Value.builtin "len") [Value.ref _]) _ _ _); k_dflt (refine' len_led ?k1_z ?k2_z ?k3_z ?k4_z ?_; (case k1_z => k_asm); (case k2_z => k_mem); (case k3_z => with_reducible assumption); (case k4_z => omega)))
  k_with "m ite" => (k_closed; with_reducible (first | refine ite_tt ?_ | refine ite_ff ?_ | refine PySem.W.ite_neg (by decide) ?_ | refine PySem.W.ite_pos (by decide) ?_))
  k_with "m subscriptTail" => (k_here; (with_reducible show wpAny _ _ (subscriptTail _ _ (Value.ref _) (Value.int _ _)) _ _ _); k_dflt (first | (refine' sub_list ?N_z ?m_z ?a_z ?b_z ?x_z ?s_z ?_; (case N_z => k_asm); (case m_z => k_mem); (case a_z => decide); (case b_z => decide); (case x_z => rfl); (case s_z => with_unfolding_all rfl)) | (refine' sub_tup ?N_z ?m_z ?a_z ?b_z ?j_z ?x_z ?s_z ?_; (case N_z => k_asm); (case m_z => k_mem); (case a_z => decide); (case b_z => decide); (case j_z => rfl); (case x_z => rfl); (case s_z => with_unfolding_all rfl))))
  k_with "m subscriptTail Name Call ref int" => (k_here; (with_reducible show wpAny _ _ (subscriptTail _ _ (Value.ref _) (Value.int _ _)) _ _ _); k_dflt (first | (refine' sub_list_any ?N_z ?m_z ?a_z ?b_z ?z_z ?s_z ?_; (case N_z => k_asm); (case m_z => k_mem); (case a_z => omega); (case b_z => first | (simp only [List.length_cons, List.length_nil]; omega) | (simp only [List.length_append, List.length_cons, List.length_nil]; omega) | (simp only [List.length_append]; omega)); (case z_z => first | exact Nat.le_of_ble_eq_true rfl | (simp only [List.length_append, List.length_cons, List.length_nil]; omega) | (simp only [List.length_append]; omega)); (case s_z => with_unfolding_all rfl)) | (refine' sub_tup_any ?N_z ?m_z ?a_z ?b_z ?z_z ?s_z ?_; (case N_z => k_asm); (case m_z => k_mem); (case a_z => omega); (case b_z => first | (simp only [List.length_cons, List.length_nil]; omega) | (simp only [List.length_append, List.length_cons, List.length_nil]; omega) | (simp only [List.length_append]; omega)); (case z_z => first | exact Nat.le_of_ble_eq_true rfl | (simp only [List.length_append, List.length_cons, List.length_nil]; omega) | (simp only [List.length_append]; omega)); (case s_z => with_unfolding_all rfl))); intro _ _)
  k_with "m subscriptTail Tuple" => (k_here; (with_reducible show wpAny _ _ (subscriptTail _ _ (Value.ref _) (Value.int _ _)) _ _ _); k_dflt (first | (refine' sub_list_any ?N_z ?m_z ?a_z ?b_z ?z_z ?s_z ?_; (case N_z => k_asm); (case m_z => k_mem); (case a_z => omega); (case b_z => first | (simp only [List.length_cons, List.length_nil]; omega) | (simp only [List.length_append, List.length_cons, List.length_nil]; omega) | (simp only [List.length_append]; omega)); (case z_z => first | exact Nat.le_of_ble_eq_true rfl | (simp only [List.length_append, List.length_cons, List.length_nil]; omega) | (simp only [List.length_append]; omega)); (case s_z => with_unfolding_all rfl)) | (refine' sub_tup_any ?N_z ?m_z ?a_z ?b_z ?z_z ?s_z ?_; (case N_z => k_asm); (case m_z => k_mem); (case a_z => omega); (case b_z => first | (simp only [List.length_cons, List.length_nil]; omega) | (simp only [List.length_append, List.length_cons, List.length_nil]; omega) | (simp only [List.length_append]; omega)); (case z_z => first | exact Nat.le_of_ble_eq_true rfl | (simp only [List.length_append, List.length_cons, List.length_nil]; omega) | (simp only [List.length_append]; omega)); (case s_z => with_unfolding_all rfl))); intro _ _)
  k_with "m subscriptTail List" => (k_here; (with_reducible show wpAny _ _ (subscriptTail _ _ (Value.ref _) (Value.int _ _)) _ _ _); k_dflt (first | (refine' sub_list_any ?N_z ?m_z ?a_z ?b_z ?z_z ?s_z ?_; (case N_z => k_asm); (case m_z => k_mem); (case a_z => omega); (case b_z => first | (simp only [List.length_cons, List.length_nil]; omega) | (simp only [List.length_append, List.length_cons, List.length_nil]; omega) | (simp only [List.length_append]; omega)); (case z_z => first | exact Nat.le_of_ble_eq_true rfl | (simp only [List.length_append, List.length_cons, List.length_nil]; omega) | (simp only [List.length_append]; omega)); (case s_z => with_unfolding_all rfl)) | (refine' sub_tup_any ?N_z ?m_z ?a_z ?b_z ?z_z ?s_z ?_; (case N_z => k_asm); (case m_z => k_mem); (case a_z => omega); (case b_z => first | (simp only [List.length_cons, List.length_nil]; omega) | (simp only [List.length_append, List.length_cons, List.length_nil]; omega) | (simp only [List.length_append]; omega)); (case z_z => first | exact Nat.le_of_ble_eq_true rfl | (simp only [List.length_append, List.length_cons, List.length_nil]; omega) | (simp only [List.length_append]; omega)); (case s_z => with_unfolding_all rfl))); intro _ _)
  k_with "m execs cons" => (k_here; (with_reducible show wpAny _ _ _ _ _ (Shared.mk _ _ _ (_ + 1) _)); refine gen_toks ?_; intro (tk : Nat))
  k_with "m call ref" => (k_here; (with_reducible show wpAny _ _ (call (Value.ref 115) _) _ _ _); first | (k_dflt (refine' ct_use (run_ct 2 (by decide) ?hta_z ?hss_z ?hln_z ?hp_z ?ha_z ?hsub_z ?hok_z ?hf_z ?ho_z ?ht_z) ?B_z ?F_z ?X_z ?N_z ?T_z ?hk_z ?hd_z ?hu_z ?_; (case N_z => k_asm); (case B_z => k_asm); (case F_z => k_asm); (case X_z => k_asm); (case T_z => k_asm); (case hk_z => first | exact rfl | assumption); (case hta_z => k_mem); (case hss_z => exact SIs.mono (by assumption) (by (first | ((repeat' (first | assumption | exact List.forall_mem_nil _ | refine sub_app ?_ ?_ | refine sub_cons ?_ ?_ | k_mem | (intro _ _; k_mem))); done) | exact sub_tr (by assumption) (by (repeat' (first | assumption | exact List.forall_mem_nil _ | refine sub_app ?_ ?_ | refine sub_cons ?_ ?_ | k_mem | (intro _ _; k_mem))))))); (case hln_z => assumption); (case hp_z => exact PreIs.mono (by assumption) (by (first | ((repeat' (first | assumption | exact List.forall_mem_nil _ | refine sub_app ?_ ?_ | refine sub_cons ?_ ?_ | k_mem | (intro _ _; k_mem))); done) | exact sub_tr (by assumption) (by (repeat' (first | assumption | exact List.forall_mem_nil _ | refine sub_app ?_ ?_ | refine sub_cons ?_ ?_ | k_mem | (intro _ _; k_mem))))))); (case ha_z => assumption); (case hsub_z => (repeat' (first | assumption | exact List.forall_mem_nil _ | refine sub_app ?_ ?_ | refine sub_cons ?_ ?_ | exact sub_tr (by assumption) (by (repeat' (first | assumption | exact List.forall_mem_nil _ | refine sub_app ?_ ?_ | refine sub_cons ?_ ?_ | k_mem | (intro _ _; k_mem)))) | k_mem | (intro _ _; k_mem)))); (case hok_z => assumption); (case hf_z => exact FactsIs.mono (by assumption) (by (first | ((repeat' (first | assumption | exact List.forall_mem_nil _ | refine sub_app ?_ ?_ | refine sub_cons ?_ ?_ | k_mem | (intro _ _; k_mem))); done) | exact sub_tr (by assumption) (by (repeat' (first | assumption | exact List.forall_mem_nil _ | refine sub_app ?_ ?_ | refine sub_cons ?_ ?_ | k_mem | (intro _ _; k_mem))))))); (case ho_z => assumption); (case ht_z => assumption); (case hd_z => (first | omega | (simp only [depth_caller, depth_deeper]; decide) | ((have hcL9 := cLine_is); (simp only [units_caller, units_deeper, Around.mark_units]); omega) | ((try simp only [depth_deeper, units_deeper, depth_in1, units_in1]); omega) | fail "room")); (case hu_z => (first | omega | (simp only [depth_caller, depth_deeper]; decide) | ((have hcL9 := cLine_is); (simp only [units_caller, units_deeper, Around.mark_units]); omega) | ((try simp only [depth_deeper, units_deeper, depth_in1, units_in1]); omega) | fail "room")); intro _ _ _ _ _ _ P9; obtain ⟨_, en9, _, _, _, _, eD9, _, _⟩ := P9; subst en9; subst eD9; (try dsimp only))) | refine stop_of ?_)
  k_with "m pyIter ref" => refine stop_of ?_
  k_with "m UnrEndW" => refine stop_of ?_
  k_with "m exec For Tuple Name cons nil" => (k_here; (rename Fr _ _ _ _ => lF'); (with_unfolding_all refine' For_turns lF' ?_; k_whole))
  trivial
theorem polrun_ct {w : World} {e : Cx} {v : Value} {terms : List (List St)} {c : Bool} {pa at' fa : Addr} {r : Rt} {news N₀ : Led} (hpol : PolIs news v terms c) (hp : PreIs news pa e.pre) (ha : AttIs w N₀ at' r) (hsub : ∀ p ∈ N₀, p ∈ news) (hok : r.Ok) (hf : FactsIs w news fa e.peer) (ho : r.org = e.org) (ht : r.two = e.two) :
    Ct w 122 [v, .ref pa, .ref at', .ref fa] 200 2000 news (PolPost w news N₀ (runT e c terms r)) := by
  obtain ⟨p, ts, fb, tvs, t1, word, rfl, hpm, htm, hfm, hterms, hword⟩ := pol_parts hpol
  unfold Ct
  k_fill
  intro mean mg mb dp un gd cn cs a ccd cl outer A₀ base h₀ L m s Q E B F X N T hk hd hu hret
  refine wpAny_call ?_
  k_dflt ktr_enter
  k_steps
  unfold Stop
  rename Fr _ _ _ _ => F1
  rename News _ _ _ _ => N1
  refine iter_tupJ (PolJ w e c news N₀ terms r _) rfl F1 N1 htm (PolJ.start (by with_unfolding_all rfl) ha ⟨hok, ho, ht⟩ hterms) ?turn ?done
  case turn =>
    clear F1 N1
    rintro I v rest m₁ news₁ io h tk hlI ⟨nv, sv, ev, D, tl, q, xs, rfl, rfl, l0, hD, hg, hts, hrun⟩ hoff F1 N1
    cases hts with | cons h1 h2 h3 h4 h5 =>
    obtain ⟨gok, gorg, gtwo⟩ := hg
    have hss := SIs.of h3
    k_steps
    all_goals rename Fr _ _ _ _ => F5
    all_goals rename News _ _ _ _ => N5
    all_goals rename AttIs _ (_ ++ (_ ++ _)) _ _ => hA5
    all_goals rename ∀ q ∈ _, ∀ p ∈ (_ :: (_ ++ _)), _ => l9
    · have hpe := pol_hit hrun (by omega)
      rw [← List.append_assoc] at hA5
      exact pol_some hret F5 N5 hA5 hpe (by (repeat' (first | assumption | exact List.forall_mem_nil _ | refine sub_app ?_ ?_ | refine sub_cons ?_ ?_ | k_mem | (intro _ _; k_mem)))) (l_two l9 l0)
    · exact pol_none hret F5 N5 (pol_miss hrun (by omega)) (by (repeat' (first | assumption | exact List.forall_mem_nil _ | refine sub_app ?_ ?_ | refine sub_cons ?_ ?_ | k_mem | (intro _ _; k_mem))))
    · unfold Stop
      exact unrW_end F5 N5 (by (repeat (first | exact Pull.here | apply Pull.there | apply Pull.app))) (List.forall_mem_append.mpr ⟨fun p hp => Nat.ne_of_gt (l9 p hp (I, io) List.mem_cons_self), hoff⟩) ⟨⟨by k_mem, trivial⟩, PolJ.close (fun y h1 h2 h3 h4 => by simp [h1, h2, h3, h4]) (by with_unfolding_all rfl) l0 l9 hA5 ⟨gok, gorg, gtwo⟩ h5 hrun (by omega) (by omega)⟩
  case done =>
    clear F1 N1
    rintro m₁ news₁ h tk ⟨nv, sv, ev, D, tl, q, xs, rfl, rfl, l0, hD, hg, hts, hrun⟩ F1 N1
    cases hts
    rcases hword with ⟨rfl, rfl⟩ | ⟨rfl, rfl⟩
    · k_steps
      rename Fr _ _ _ _ => F5
      rename News _ _ _ _ => N5
      exact pol_some hret F5 N5 hD (by rw [hrun]; rfl) (by (repeat' (first | assumption | exact List.forall_mem_nil _ | refine sub_app ?_ ?_ | refine sub_cons ?_ ?_ | k_mem | (intro _ _; k_mem)))) l0
    · k_steps
      rename Fr _ _ _ _ => F5
      rename News _ _ _ _ => N5
      exact pol_none hret F5 N5 (by rw [hrun]; rfl) (by (repeat' (first | assumption | exact List.forall_mem_nil _ | refine sub_app ?_ ?_ | refine sub_cons ?_ ?_ | k_mem | (intro _ _; k_mem))))
end

theorem kwpairs39 : True := by
  k_with_none
  k_with "m call builtin:len" => (k_here; (with_reducible show wpAny _ _ (call (Value.builtin "len") [Value.ref _]) _ _ _); k_dflt (refine' len_led ?k1_z ?k2_z ?k3_z ?k4_z ?_; (case k1_z => k_asm); (case k2_z => k_mem); (case k3_z => with_reducible assumption); (case k4_z => omega)))
  k_with "m ite" => (k_closed; with_reducible (first | refine ite_tt ?_ | refine ite_ff ?_ | refine PySem.W.ite_neg (by decide) ?_ | refine PySem.W.ite_pos (by decide) ?_))
  k_with "m subscriptTail" => (k_here; (with_reducible show wpAny _ _ (subscriptTail _ _ (Value.ref _) (Value.int _ _)) _ _ _); k_dflt (first | (refine' sub_list ?N_z ?m_z ?a_z ?b_z ?x_z ?s_z ?_; (case N_z => k_asm); (case m_z => k_mem); (case a_z => decide); (case b_z => decide); (case x_z => rfl); (case s_z => with_unfolding_all rfl)) | (refine' sub_tup ?N_z ?m_z ?a_z ?b_z ?j_z ?x_z ?s_z ?_; (case N_z => k_asm); (case m_z => k_mem); (case a_z => decide); (case b_z => decide); (case j_z => rfl); (case x_z => rfl); (case s_z => with_unfolding_all rfl))))
  k_with "m subscriptTail Name Call ref int" => (k_here; (with_reducible show wpAny _ _ (subscriptTail _ _ (Value.ref _) (Value.int _ _)) _ _ _); k_dflt (first | (refine' sub_list_any ?N_z ?m_z ?a_z ?b_z ?z_z ?s_z ?_; (case N_z => k_asm); (case m_z => k_mem); (case a_z => omega); (case b_z => first | (simp only [List.length_cons, List.length_nil]; omega) | (simp only [List.length_append, List.length_cons, List.length_nil]; omega) | (simp only [List.length_append]; omega)); (case z_z => first | exact Nat.le_of_ble_eq_true rfl | (simp only [List.length_append, List.length_cons, List.length_nil]; omega) | (simp only [List.length_append]; omega)); (case s_z => with_unfolding_all rfl)) | (refine' sub_tup_any ?N_z ?m_z ?a_z ?b_z ?z_z ?s_z ?_; (case N_z => k_asm); (case m_z => k_mem); (case a_z => omega); (case b_z => first | (simp only [List.length_cons, List.length_nil]; omega) | (simp only [List.length_append, List.length_cons, List.length_nil]; omega) | (simp only [List.length_append]; omega)); (case z_z => first | exact Nat.le_of_ble_eq_true rfl | (simp only [List.length_append, List.length_cons, List.length_nil]; omega) | (simp only [List.length_append]; omega)); (case s_z => with_unfolding_all rfl))); intro _ _)
  k_with "m subscriptTail Tuple" => (k_here; (with_reducible show wpAny _ _ (subscriptTail _ _ (Value.ref _) (Value.int _ _)) _ _ _); k_dflt (first | (refine' sub_list_any ?N_z ?m_z ?a_z ?b_z ?z_z ?s_z ?_; (case N_z => k_asm); (case m_z => k_mem); (case a_z => omega); (case b_z => first | (simp only [List.length_cons, List.length_nil]; omega) | (simp only [List.length_append, List.length_cons, List.length_nil]; omega) | (simp only [List.length_append]; omega)); (case z_z => first | exact Nat.le_of_ble_eq_true rfl | (simp only [List.length_append, List.length_cons, List.length_nil]; omega) | (simp only [List.length_append]; omega)); (case s_z => with_unfolding_all rfl)) | (refine' sub_tup_any ?N_z ?m_z ?a_z ?b_z ?z_z ?s_z ?_; (case N_z => k_asm); (case m_z => k_mem); (case a_z => omega); (case b_z => first | (simp only [List.length_cons, List.length_nil]; omega) | (simp only [List.length_append, List.length_cons, List.length_nil]; omega) | (simp only [List.length_append]; omega)); (case z_z => first | exact Nat.le_of_ble_eq_true rfl | (simp only [List.length_append, List.length_cons, List.length_nil]; omega) | (simp only [List.length_append]; omega)); (case s_z => with_unfolding_all rfl))); intro _ _)
  k_with "m subscriptTail List" => (k_here; (with_reducible show wpAny _ _ (subscriptTail _ _ (Value.ref _) (Value.int _ _)) _ _ _); k_dflt (first | (refine' sub_list_any ?N_z ?m_z ?a_z ?b_z ?z_z ?s_z ?_; (case N_z => k_asm); (case m_z => k_mem); (case a_z => omega); (case b_z => first | (simp only [List.length_cons, List.length_nil]; omega) | (simp only [List.length_append, List.length_cons, List.length_nil]; omega) | (simp only [List.length_append]; omega)); (case z_z => first | exact Nat.le_of_ble_eq_true rfl | (simp only [List.length_append, List.length_cons, List.length_nil]; omega) | (simp only [List.length_append]; omega)); (case s_z => with_unfolding_all rfl)) | (refine' sub_tup_any ?N_z ?m_z ?a_z ?b_z ?z_z ?s_z ?_; (case N_z => k_asm); (case m_z => k_mem); (case a_z => omega); (case b_z => first | (simp only [List.length_cons, List.length_nil]; omega) | (simp only [List.length_append, List.length_cons, List.length_nil]; omega) | (simp only [List.length_append]; omega)); (case z_z => first | exact Nat.le_of_ble_eq_true rfl | (simp only [List.length_append, List.length_cons, List.length_nil]; omega) | (simp only [List.length_append]; omega)); (case s_z => with_unfolding_all rfl))); intro _ _)
  k_with "m execs cons" => (k_here; (with_reducible show wpAny _ _ _ _ _ (Shared.mk _ _ _ (_ + 1) _)); refine gen_toks ?_; intro (tk : Nat))
  trivial
theorem miss_list_keys : typeLookup (.type "list") "keys" = pure none := by rw [typeLookup_type, builtinLookup_eq_fast]; kernel_rfl
theorem getAttrBy_miss_list {prog : Program} {w : World} {A : Around} {E : Value → Shared → Prop} {s : Shared} {a : Addr} {o : Obj} {xs : Array Value} {k : Nat} {u : Tok} {Q : Value → Shared → Prop}
    (hx : s.heap.get? a = some o) (hc : o.cls = .type "list") (hdat : o.data = .seq xs k) (hd : o.dict = none) (hA : A.handled = none)
    (h : ∀ h' tk e, Heap.NewAttrErr s.heap h' e (.ref a) "keys" → E (.ref e) { s with heap := h', toks := tk }) :
    wpAny (model prog w) A (getAttrBy (.ref a) (.str "keys" u) false) Q E s := by
  obtain ⟨c, dct, dat, sl⟩ := o
  simp only at hc hdat hd
  subst hc hdat hd
  obtain ⟨hp, g, d, tk, os⟩ := s
  have hT : ∀ tk', (⟨hp, g, d, tk', os⟩ : Shared).TypeIs (.ref a) "list" := fun _ => ⟨_, hx, rfl⟩
  have f1 := sub_AttributeError
  have f3 := PySem.F.slot_list_getattribute.lookup
  have f4 := PySem.F.slot_list_getattribute.bind (.ref a)
  have f5 := am_list_getattr_none
  unfold getAttrBy
  repeat (any_goals (first | assumption | exact hT _ | ((with_reducible show wpAny _ _ (call (Value.builtin "list.__getattribute__") _) _ _ _); refine call_meets PySem.F.slot_list_getattribute (hT _) am_entry_list_getattribute (PySem.F.args_list_getattribute_2 _ _) (meets_getattribute_miss_list a xs k sl "keys" _ miss_list_keys (by decide +kernel) (by rw [sizeLine_eq]; decide +kernel)) ⟨hx, hA, fun h' tk' e hx' => ?_⟩) | wp_step))
  obtain ⟨t', u', he⟩ := hx'.there
  show wpAny _ _ (getattributeRaised _ _ _ _ _ _ _) _ _ _
  unfold getattributeRaised
  repeat (any_goals (first | assumption | wp_step))
  exact h _ _ _ hx'
theorem keys_none {prog : Program} {w : World} {A : Around} {E : Value → Shared → Prop} {s : Shared} {a : Addr} {o : Obj} {xs : Array Value} {k : Nat} {Q : Option Value → Shared → Prop}
    (hx : s.heap.get? a = some o) (hc : o.cls = .type "list") (hdat : o.data = .seq xs k) (hd : o.dict = none) (hA : A.handled = none)
    (h : ∀ h' tk, (∀ b ob, s.heap.get? b = some ob → h'.get? b = some ob) → Q none { s with heap := h', toks := tk }) :
    wpAny (model prog w) A (getAttr? (.ref a) "keys") Q E s := by
  obtain ⟨hp, g, d, tk, os⟩ := s
  have f1 := sub_AttributeError
  unfold getAttr? getAttrBy?
  repeat (any_goals (first | assumption | ((with_reducible show wpAny _ _ (getAttrBy _ _ _) _ _ _); refine getAttrBy_miss_list hx hc hdat hd hA fun h' tk' e hx' => ?_; obtain ⟨t', u', he⟩ := hx'.there) | wp_step))
  trace_state
  exact h _ _ hx'.keeps
theorem plain_upd : plainId "dict.update.loop" = true := by decide +kernel
theorem entry_upd : entryFor table "dict.update.loop" = some Builtin.«dict.update.loop» := entryFor_of_fast (by kernel_rfl)
theorem ty_tup {h : Heap} {g : Array GenState} {d : Drawn} {t : Nat} {os : OsState} {T : Addr} {vs : Array Value} (x : h.IsTuple T vs) : (⟨h, g, d, t, os⟩ : Shared).TypeIs (.ref T) "tuple" := by
  obtain ⟨o, ho, hc, _⟩ := x
  exact ⟨o, ho, hc⟩
section
variable {prog : Program} {w : World} {A : Around} {E : Value → Shared → Prop} {s : Shared}
def PairAt (prog : Program) (w : World) (h : Heap) (D I : Addr) (vs : List Value) (kvs : List (Str × Value)) : Prop :=
  ∀ (j : Nat) (v : Value), vs[j]? = some v → ∃ T key k x, v = .ref T ∧ kvs[j]? = some (k, x) ∧ (PySem.strKind prog w).is k key = true ∧ h.IsTuple T #[key, x] ∧ T ≠ D ∧ T ≠ I
theorem upd_loop {D I S : Addr} {vs : List Value} {kvs : List (Str × Value)} {h₁ : Heap} {R : Result → Shared → Prop} (hh : A.handled = none) (hDI : D ≠ I) (hSI : S ≠ I) (hSD : S ≠ D) (hn : kvs.length ≤ 100000) (hlen : vs.length = kvs.length)
    (hP : PairAt prog w h₁ D I vs kvs) (hS : h₁.IsList S vs.toArray)
    (hR : ∀ h' tk, h'.DictOf (PySem.strKind prog w) D (merged [] kvs) → (∀ b o, b ≠ D → b ≠ I → h₁.get? b = some o → h'.get? b = some o) → R (.ok (.ret .none)) { s with heap := h', toks := tk }) :
    ∀ (k i : Nat) (h : Heap) (tk : Nat) (u : Tok), vs.length - i = k → i ≤ vs.length → h.IsListIter I S i → h.DictOf (PySem.strKind prog w) D (merged [] (kvs.take i)) → (∀ b o, b ≠ D → b ≠ I → h₁.get? b = some o → h.get? b = some o) →
      codeAny (model prog w) A (.builtin "dict.update.loop" ⟨[.ref D, .ref I, .int (i : Nat) u, .none], []⟩) R { s with heap := h, toks := tk } := by
  intro k
  induction k with
  | zero =>
    intro i h tk u hk hi hit hd hkeep
    have hin : i = vs.length := by omega
    refine codeAny_builtin entry_upd ?_
    rw [Around.under_plainId plain_upd _]
    show wpAny _ A.in1 (pyNext (.ref I) >>= _) _ _ _
    refine wpAny_bind (wpAny_pyNext_list_end (s := { s with heap := h, toks := tk }) (A := A.in1) hh hit (hS.at fun o e => hkeep S o hSD hSI e) (by simp; omega) fun h' he => ?_)
    refine wpAny_bind (wpAny_pure (wpAny_pure (hR h' tk ?_ fun b o h1 h2 e => he b o h2 (hkeep b o h1 h2 e))))
    have e : kvs.take i = kvs := List.take_of_length_le (by omega)
    rw [e] at hd
    exact hd.extBut he hDI
  | succ k ih =>
    intro i h tk u hk hi hit hd hkeep
    have hlt : i < vs.length := by omega
    obtain ⟨T, key, kk, x, hv, hx, hkey, hT, hTD, hTI⟩ := hP i vs[i] (List.getElem?_eq_getElem hlt)
    refine codeAny_builtin entry_upd ?_
    rw [Around.under_plainId plain_upd _]
    show wpAny _ A.in1 (pyNext (.ref I) >>= _) _ _ _
    refine wpAny_bind (wpAny_pyNext_list_item (s := { s with heap := h, toks := tk }) (A := A.in1) hit (hS.at fun o e => hkeep S o hSD hSI e) (x := .ref T) (by rw [← hv]; simp [hlt]) fun h' hit' hs' => ?_)
    have hT' : h'.IsTuple T #[key, x] := hT.at fun o e => hs'.extBut T o hTI (hkeep T o hTD hTI e)
    have hd' := hd.extBut hs'.extBut hDI
    show wpAny _ A.in1 (holding [.ref T] _ >>= _) _ _ _
    refine wpAny_bind (wpAny_holding (wpAny_bind (wpAny_tryCatch ?_)))
    show wpAny _ A.in1 (Builtin.Dict.pairItems (.ref T)) _ _ _
    unfold Builtin.Dict.pairItems
    refine wpAny_bind (wpAny_typeOf (T := "tuple") (ty_tup hT') ?_)
    have ht : (Value.type "tuple" == Value.type "list" || Value.type "tuple" == Value.type "tuple") = true := by decide
    simp only [ht, if_true]
    obtain ⟨o, ho, _, c, hdat⟩ := hT'
    refine wpAny_bind (wpAny_seqItems (s := { s with heap := h', toks := tk }) ho hdat (wpAny_pure ?_))
    show wpAny _ A.in1 (holding [key, x] (dictSet D key x)) _ _ _
    refine wpAny_holding (wpAny_dictSet_pairs hkey hd' (fun h₂ hd₂ hs₂ => ?_) (by
      have := merged_length_le ([] : List (Str × Value)) (kvs.take i)
      rw [List.length_take] at this
      rw [sizeLine_eq]
      simp only [List.length_nil] at this
      omega))
    refine wpAny_pure ⟨plainId_quiet plain_upd _, ?_⟩
    have hI' : h₂.IsListIter I S (i + 1) := hit'.at fun o e => hs₂.extBut I o (Ne.symm hDI) e
    rw [← merged_take_succ [] kvs i (kk, x) hx] at hd₂
    exact ih (i + 1) h₂ (tk + 1) 0 (by omega) hlt hI' hd₂ fun b o h1 h2 e => hs₂.extBut b o h1 (hs'.extBut b o h2 (hkeep b o h1 h2 e))
end

inductive PairsAre (prog : Program) (w : World) (N : Led) : List Value → List (Str × Value) → Prop
  | nil : PairsAre prog w N [] []
  | cons {a key k x vs kvs} (h : (a, tupO [key, x]) ∈ N) (hk : (PySem.strKind prog w).is k key = true) (r : PairsAre prog w N vs kvs) : PairsAre prog w N (.ref a :: vs) ((k, x) :: kvs)
theorem kwpairs240 : True := by
  k_with_none
  k_with "m call builtin:len" => (k_here; (with_reducible show wpAny _ _ (call (Value.builtin "len") [Value.ref _]) _ _ _); k_dflt (refine' len_led ?k1_z ?k2_z ?k3_z ?k4_z ?_; (case k1_z => k_asm); (case k2_z => k_mem); (case k3_z => with_reducible assumption); (case k4_z => omega)))
  k_with "m ite" => (k_closed; with_reducible (first | refine ite_tt ?_ | refine ite_ff ?_ | refine PySem.W.ite_neg (by decide) ?_ | refine PySem.W.ite_pos (by decide) ?_))
  k_with "m subscriptTail" => (k_here; (with_reducible show wpAny _ _ (subscriptTail _ _ (Value.ref _) (Value.int _ _)) _ _ _); k_dflt (first | (refine' sub_list ?N_z ?m_z ?a_z ?b_z ?x_z ?s_z ?_; (case N_z => k_asm); (case m_z => k_mem); (case a_z => decide); (case b_z => decide); (case x_z => rfl); (case s_z => with_unfolding_all rfl)) | (refine' sub_tup ?N_z ?m_z ?a_z ?b_z ?j_z ?x_z ?s_z ?_; (case N_z => k_asm); (case m_z => k_mem); (case a_z => decide); (case b_z => decide); (case j_z => rfl); (case x_z => rfl); (case s_z => with_unfolding_all rfl))))
  k_with "m subscriptTail Name Call ref int" => (k_here; (with_reducible show wpAny _ _ (subscriptTail _ _ (Value.ref _) (Value.int _ _)) _ _ _); k_dflt (first | (refine' sub_list_any ?N_z ?m_z ?a_z ?b_z ?z_z ?s_z ?_; (case N_z => k_asm); (case m_z => k_mem); (case a_z => omega); (case b_z => first | (simp only [List.length_cons, List.length_nil]; omega) | (simp only [List.length_append, List.length_cons, List.length_nil]; omega) | (simp only [List.length_append]; omega)); (case z_z => first | exact Nat.le_of_ble_eq_true rfl | (simp only [List.length_append, List.length_cons, List.length_nil]; omega) | (simp only [List.length_append]; omega)); (case s_z => with_unfolding_all rfl)) | (refine' sub_tup_any ?N_z ?m_z ?a_z ?b_z ?z_z ?s_z ?_; (case N_z => k_asm); (case m_z => k_mem); (case a_z => omega); (case b_z => first | (simp only [List.length_cons, List.length_nil]; omega) | (simp only [List.length_append, List.length_cons, List.length_nil]; omega) | (simp only [List.length_append]; omega)); (case z_z => first | exact Nat.le_of_ble_eq_true rfl | (simp only [List.length_append, List.length_cons, List.length_nil]; omega) | (simp only [List.length_append]; omega)); (case s_z => with_unfolding_all rfl))); intro _ _)
  k_with "m subscriptTail Tuple" => (k_here; (with_reducible show wpAny _ _ (subscriptTail _ _ (Value.ref _) (Value.int _ _)) _ _ _); k_dflt (first | (refine' sub_list_any ?N_z ?m_z ?a_z ?b_z ?z_z ?s_z ?_; (case N_z => k_asm); (case m_z => k_mem); (case a_z => omega); (case b_z => first | (simp only [List.length_cons, List.length_nil]; omega) | (simp only [List.length_append, List.length_cons, List.length_nil]; omega) | (simp only [List.length_append]; omega)); (case z_z => first | exact Nat.le_of_ble_eq_true rfl | (simp only [List.length_append, List.length_cons, List.length_nil]; omega) | (simp only [List.length_append]; omega)); (case s_z => with_unfolding_all rfl)) | (refine' sub_tup_any ?N_z ?m_z ?a_z ?b_z ?z_z ?s_z ?_; (case N_z => k_asm); (case m_z => k_mem); (case a_z => omega); (case b_z => first | (simp only [List.length_cons, List.length_nil]; omega) | (simp only [List.length_append, List.length_cons, List.length_nil]; omega) | (simp only [List.length_append]; omega)); (case z_z => first | exact Nat.le_of_ble_eq_true rfl | (simp only [List.length_append, List.length_cons, List.length_nil]; omega) | (simp only [List.length_append]; omega)); (case s_z => with_unfolding_all rfl))); intro _ _)
  k_with "m subscriptTail List" => (k_here; (with_reducible show wpAny _ _ (subscriptTail _ _ (Value.ref _) (Value.int _ _)) _ _ _); k_dflt (first | (refine' sub_list_any ?N_z ?m_z ?a_z ?b_z ?z_z ?s_z ?_; (case N_z => k_asm); (case m_z => k_mem); (case a_z => omega); (case b_z => first | (simp only [List.length_cons, List.length_nil]; omega) | (simp only [List.length_append, List.length_cons, List.length_nil]; omega) | (simp only [List.length_append]; omega)); (case z_z => first | exact Nat.le_of_ble_eq_true rfl | (simp only [List.length_append, List.length_cons, List.length_nil]; omega) | (simp only [List.length_append]; omega)); (case s_z => with_unfolding_all rfl)) | (refine' sub_tup_any ?N_z ?m_z ?a_z ?b_z ?z_z ?s_z ?_; (case N_z => k_asm); (case m_z => k_mem); (case a_z => omega); (case b_z => first | (simp only [List.length_cons, List.length_nil]; omega) | (simp only [List.length_append, List.length_cons, List.length_nil]; omega) | (simp only [List.length_append]; omega)); (case z_z => first | exact Nat.le_of_ble_eq_true rfl | (simp only [List.length_append, List.length_cons, List.length_nil]; omega) | (simp only [List.length_append]; omega)); (case s_z => with_unfolding_all rfl))); intro _ _)
  k_with "m execs cons" => (k_here; (with_reducible show wpAny _ _ _ _ _ (Shared.mk _ _ _ (_ + 1) _)); refine gen_toks ?_; intro (tk : Nat))
  trivial
theorem PairsAre.mono {prog : Program} {w : World} {N N' : Led} {vs : List Value} {kvs : List (Str × Value)} (h : PairsAre prog w N vs kvs) (s : ∀ p ∈ N, p ∈ N') : PairsAre prog w N' vs kvs := by
  induction h with
  | nil => exact .nil
  | cons h hk _ r => exact .cons (s _ h) hk r
theorem PairsAre.length {prog : Program} {w : World} {N : Led} {vs : List Value} {kvs : List (Str × Value)} (h : PairsAre prog w N vs kvs) : vs.length = kvs.length := by
  induction h with
  | nil => rfl
  | cons h hk _ r => simp [r]
theorem PairsAre.get {prog : Program} {w : World} {N : Led} {vs : List Value} {kvs : List (Str × Value)} (h : PairsAre prog w N vs kvs) : ∀ (j : Nat) (v : Value), vs[j]? = some v → ∃ T key k x, v = .ref T ∧ kvs[j]? = some (k, x) ∧ (PySem.strKind prog w).is k key = true ∧ (T, tupO [key, x]) ∈ N := by
  induction h with
  | nil => intro j v h; simp at h
  | @cons a key k x vs kvs h hk _ r =>
    intro j v hv
    cases j with
    | zero => exact ⟨a, key, k, x, by simpa using hv.symm, rfl, hk, h⟩
    | succ j =>
      obtain ⟨T, key', k', x', e1, e2, e3, e4⟩ := r j v (by simpa using hv)
      exact ⟨T, key', k', x', e1, by simpa using e2, e3, e4⟩
theorem dict_pairs {prog : Program} {w : World} {A : Around} {E : Value → Shared → Prop} {s : Shared} {h₀ : Heap} {L S : Addr} {m : Str → Option Value} {news : Led} {vs : List Value} {c : Nat} {kvs : List (Str × Value)} {Q : Value → Shared → Prop}
    (hh : A.handled = none) (F : Fr h₀ L s.heap m) (N : News h₀ L s.heap news) (hl : (S, PySem.W.listOf vs.toArray c) ∈ news) (hp : PairsAre prog w news vs kvs) (hn : (kvs.map (·.1)).Nodup) (hlim : h₀.NoLimit) (hsz : kvs.length ≤ 100000)
    (h : ∀ D oD h' tk, Fr h₀ L h' m → News h₀ L h' ((D, oD) :: news) → (∀ q ∈ news, @LT.lt Nat _ q.1 D) → (D == sysModules) = false → oD.IsDictOf (PySem.strKind prog w) kvs → Q (.ref D) { s with heap := h', toks := tk }) :
    wpAny (model prog w) A (call (.type "dict") [.ref S]) Q E s := by
  have hS := N _ hl
  refine callType_codes (Q₁ := fun obj s₁ => obj = .ref s.heap.objs.size ∧ s₁ = { s with heap := s.heap.push { cls := .type "dict", data := .dict #[] } }) PySem.F.kt_called_dict (PySem.F.kt_typeCall_dict_1 _) PySem.F.entry_dict_init (kt_code_dict_new _ ⟨rfl, rfl⟩) ?_
  rintro obj s₁ ⟨rfl, rfl⟩
  have hnew : (s.heap.push { cls := .type "dict", data := .dict #[] }).DictOf (PySem.strKind prog w) s.heap.objs.size [] := Heap.DictOf.new s.heap
  have hSg : (s.heap.push { cls := .type "dict", data := .dict #[] }).get? S = some (PySem.W.listOf vs.toArray c) := Heap.get?_push_of_some _ hS.1
  have hSL : (s.heap.push { cls := .type "dict", data := .dict #[] }).IsList S vs.toArray := PySem.IsL.isList (n := c) hSg
  have hST : Shared.TypeIs { s with heap := s.heap.push { cls := .type "dict", data := .dict #[] } } (.ref S) "list" := ⟨_, hSg, rfl⟩
  refine ⟨hnew.typeIs, PySem.F.args_dict_init_2 _ _, ?_⟩
  unfold Builtin.«dict.__init__»
  refine wpAny_bind ?_
  unfold Builtin.Dict.selfAndRest
  refine wpAny_bind (wpAny_notOrdered_dict hnew.typeIs ?_)
  show wpAny _ _ (pure (s.heap.objs.size, [Value.ref S])) _ _ _
  refine wpAny_pure ?_
  show wpAny _ _ (Builtin.Dict.updateFrom "dict.__init__" s.heap.objs.size (.ref S) [] .none) _ _ _
  unfold Builtin.Dict.updateFrom
  refine wpAny_bind (wpAny_typeOf hST ?_)
  rw [if_pos (by decide)]
  refine wpAny_bind (keys_none hSg rfl rfl rfl hh fun h1 tk1 hk1 => ?_)
  have hS1 := hSL.at fun o e => hk1 S o e
  simp only [Option.isNone_none, if_true]
  refine wpAny_bind (wpAny_rule (wpAny_bind (wpAny_pyIter_list hS1 ?_)))
  refine wpAny_pure ⟨plainId_quiet plain_upd _, ?_⟩
  have hsize : @LE.le Nat _ (s.heap.push { cls := .type "dict", data := .dict #[] }).objs.size h1.objs.size := by
    rw [Heap.size_push]
    exact Heap.lt_size (hk1 _ _ (Heap.get?_push_size _ rfl))
  have hD1 : (h1.push { cls := .type "list_iterator", data := .fields #[.ref S, .int 0 0] }).DictOf (PySem.strKind prog w) s.heap.objs.size [] := hnew.at fun o e => Heap.get?_push_of_some _ (hk1 _ o e)
  have hlt : ∀ b o, s.heap.get? b = some o → b ≠ s.heap.objs.size ∧ b ≠ h1.objs.size := fun b o e => by
    have := Heap.lt_size e
    rw [Heap.size_push] at hsize
    exact ⟨Nat.ne_of_lt this, Nat.ne_of_lt (Nat.lt_of_lt_of_le this (Nat.le_of_succ_le hsize))⟩
  have hSl := hlt S _ hS.1
  have hDI : s.heap.objs.size ≠ h1.objs.size := by rw [Heap.size_push] at hsize; exact Nat.ne_of_lt hsize
  refine upd_loop (A := A.in1) (s := s) (h₁ := h1.push { cls := .type "list_iterator", data := .fields #[.ref S, .int 0 0] }) (kvs := kvs) (vs := vs) hh hDI hSl.2 hSl.1 hsz hp.length ?_ (hS1.push _) ?_ vs.length 0 _ _ 0 (by omega) (Nat.zero_le _) ⟨_, Heap.get?_push_size _ rfl, rfl, rfl⟩ (by simpa [merged] using hD1) (fun b o _ _ e => e)
  · intro j v hv
    obtain ⟨T, key, k, x, e1, e2, e3, e4⟩ := hp.get j v hv
    have hT := (N _ e4).1
    have hTl := hlt T _ hT
    exact ⟨T, key, k, x, e1, e2, e3, ⟨_, Heap.get?_push_of_some _ (hk1 _ _ (Heap.get?_push_of_some _ hT)), rfl, 0, rfl⟩, hTl.1, hTl.2⟩
  · intro h' tk hd' hkeep
    rw [merged_nil_of_nodup kvs hn] at hd'
    obtain ⟨oD, hoD, hdD⟩ := Heap.dictOf_iff.mp hd'
    have keep : ∀ b o, s.heap.get? b = some o → h'.get? b = some o := fun b o e =>
      hkeep b o (hlt b o e).1 (hlt b o e).2 (Heap.get?_push_of_some _ (hk1 _ _ (Heap.get?_push_of_some _ e)))
    refine ⟨rfl, h s.heap.objs.size oD h' tk (F.keeps keep) (fun q hq => ?_) (fun q hq => Heap.lt_size (N q hq).1) ?_ hdD⟩
    · rcases List.mem_cons.mp hq with rfl | hq
      · exact ⟨hoD, kdx_fresh F (Nat.le_refl _)⟩
      · exact ⟨keep _ _ (N q hq).1, (N q hq).2⟩
    · have h1 := modules_low hlim
      have h2 : h₀.objs.size ≤ s.heap.objs.size := Nat.le_of_lt (Nat.lt_of_le_of_lt F.above F.ns.lt)
      exact beq_eq_false_iff_ne.mpr (Nat.ne_of_gt (Nat.lt_of_lt_of_le h1 h2))
theorem pairs_of_g {prog : Program} {w : World} {h : Heap} {lo : Addr} : ∀ (kvs : List (Str × Value)) (as : List Addr), as.length = kvs.length → (∀ a ∈ as, @LT.lt Nat _ lo a) →
    (∀ (j : Nat) (a : Addr), as[j]? = some a → ∃ key k x, kvs[j]? = some (k, x) ∧ (PySem.strKind prog w).is k key = true ∧ h.get? a = some (tupO [key, x])) →
    ∃ tups : Led, (∀ q ∈ tups, h.get? q.1 = some q.2 ∧ @LT.lt Nat _ lo q.1) ∧ PairsAre prog w tups (as.map Value.ref) kvs
  | [], [], _, _, _ => ⟨[], fun _ h => absurd h List.not_mem_nil, .nil⟩
  | [], _ :: _, hl, _, _ => by simp at hl
  | _ :: _, [], hl, _, _ => by simp at hl
  | (k, x) :: kvs, a :: as, hl, ha, hp => by
    obtain ⟨key, k', x', e1, e2, e3⟩ := hp 0 a rfl
    have e1' : k = k' ∧ x = x' := by simpa using e1
    obtain ⟨rfl, rfl⟩ := e1'
    obtain ⟨tups, h1, h2⟩ := pairs_of_g kvs as (by simpa using hl) (fun b hb => ha b (List.mem_cons_of_mem _ hb)) fun j b hb => by
      obtain ⟨key, k, x, f1, f2, f3⟩ := hp (j + 1) b (by simpa using hb)
      exact ⟨key, k, x, by simpa using f1, f2, f3⟩
    refine ⟨(a, tupO [key, x]) :: tups, fun q hq => ?_, .cons List.mem_cons_self e2 (h2.mono fun q hq => List.mem_cons_of_mem _ hq)⟩
    rcases List.mem_cons.mp hq with rfl | hq
    · exact ⟨e3, ha a List.mem_cons_self⟩
    · exact h1 q hq
theorem items_led {prog : Program} {w : World} {A : Around} {E : Value → Shared → Prop} {s : Shared} {h₀ : Heap} {L v d : Addr} {m : Str → Option Value} {news : Led} {od : Obj} {kvs : List (Str × Value)} {Q : Value → Shared → Prop}
    (hh : A.handled = none) (F : Fr h₀ L s.heap m) (N : News h₀ L s.heap news) (hv : (v, ({ cls := .type "dict_items", data := .fields #[.ref d] } : Obj)) ∈ news) (hm : (d, od) ∈ news) (hd : od.IsDictOf (PySem.strKind prog w) kvs) (hsz : kvs.length ≤ 100000)
    (h : ∀ B vs tups c h' tk, Fr h₀ L h' m → News h₀ L h' ((B, PySem.W.listOf vs.toArray c) :: (tups ++ news)) → (∀ q ∈ news, @LT.lt Nat _ q.1 B) → (∀ q ∈ tups, @LT.lt Nat _ B q.1) → PairsAre prog w tups vs kvs → Q (.ref B) { s with heap := h', toks := tk }) :
    wpAny (model prog w) A (call (.type "list") [.ref v]) Q E s := by
  obtain ⟨ep, hat⟩ := KdkAt.of hd
  refine kdx_call (knd := PySem.strKind prog w) (kvs := kvs) (ep := ep) hh ⟨_, (N _ hv).1, rfl, rfl⟩ (hat.dictAt (N _ hm).1) (by rw [sizeLine_eq]; omega) fun h' tk acc c as hk hS hl hG hacc => ?_
  obtain ⟨tups, h1, h2⟩ := pairs_of_g (prog := prog) (w := w) kvs as hl hG.above hG.pairs
  have ea : acc = (as.map Value.ref).toArray := by rw [← hacc, Array.toArray_toList]
  refine h s.heap.objs.size _ tups c h' tk (F.keeps hk) (fun q hq => ?_) (fun q hq => Heap.lt_size (N q hq).1) (fun q hq => (h1 q hq).2) h2
  rcases List.mem_cons.mp hq with rfl | hq
  · exact ⟨by rw [← ea]; exact hS, kdx_fresh F (Nat.le_refl _)⟩
  · rcases List.mem_append.mp hq with hq | hq
    · exact ⟨(h1 q hq).1, kdx_fresh F (Nat.le_of_lt (h1 q hq).2)⟩
    · exact ⟨hk _ _ (N q hq).1, (N q hq).2⟩

section
variable {prog : Program} {w : World} {A : Around} {E : Value → Shared → Prop} {s : Shared}
def PairG (prog : Program) (w : World) (h h₁ : Heap) (C D I : Addr) (kvs : List (Str × Value)) (as : List Addr) : Prop :=
  as.length = kvs.length ∧ ∀ (j : Nat) (a : Addr), as[j]? = some a → ∃ key k x, kvs[j]? = some (k, x) ∧ (PySem.strKind prog w).is k key = true ∧ h.get? a = some (tupO [key, x]) ∧ a ≠ C ∧ a ≠ D ∧ a ≠ I ∧ h₁.get? a = none
theorem kwcomppair41 : True := by
  k_with_none
  k_with "m call builtin:len" => (k_here; (with_reducible show wpAny _ _ (call (Value.builtin "len") [Value.ref _]) _ _ _); k_dflt (refine' len_led ?k1_z ?k2_z ?k3_z ?k4_z ?_; (case k1_z => k_asm); (case k2_z => k_mem); (case k3_z => with_reducible assumption); (case k4_z => omega)))
  k_with "m ite" => (k_closed; with_reducible (first | refine ite_tt ?_ | refine ite_ff ?_ | refine PySem.W.ite_neg (by decide) ?_ | refine PySem.W.ite_pos (by decide) ?_))
  k_with "m subscriptTail" => (k_here; (with_reducible show wpAny _ _ (subscriptTail _ _ (Value.ref _) (Value.int _ _)) _ _ _); k_dflt (first | (refine' sub_list ?N_z ?m_z ?a_z ?b_z ?x_z ?s_z ?_; (case N_z => k_asm); (case m_z => k_mem); (case a_z => decide); (case b_z => decide); (case x_z => rfl); (case s_z => with_unfolding_all rfl)) | (refine' sub_tup ?N_z ?m_z ?a_z ?b_z ?j_z ?x_z ?s_z ?_; (case N_z => k_asm); (case m_z => k_mem); (case a_z => decide); (case b_z => decide); (case j_z => rfl); (case x_z => rfl); (case s_z => with_unfolding_all rfl))))
  k_with "m subscriptTail Name Call ref int" => (k_here; (with_reducible show wpAny _ _ (subscriptTail _ _ (Value.ref _) (Value.int _ _)) _ _ _); k_dflt (first | (refine' sub_list_any ?N_z ?m_z ?a_z ?b_z ?z_z ?s_z ?_; (case N_z => k_asm); (case m_z => k_mem); (case a_z => omega); (case b_z => first | (simp only [List.length_cons, List.length_nil]; omega) | (simp only [List.length_append, List.length_cons, List.length_nil]; omega) | (simp only [List.length_append]; omega)); (case z_z => first | exact Nat.le_of_ble_eq_true rfl | (simp only [List.length_append, List.length_cons, List.length_nil]; omega) | (simp only [List.length_append]; omega)); (case s_z => with_unfolding_all rfl)) | (refine' sub_tup_any ?N_z ?m_z ?a_z ?b_z ?z_z ?s_z ?_; (case N_z => k_asm); (case m_z => k_mem); (case a_z => omega); (case b_z => first | (simp only [List.length_cons, List.length_nil]; omega) | (simp only [List.length_append, List.length_cons, List.length_nil]; omega) | (simp only [List.length_append]; omega)); (case z_z => first | exact Nat.le_of_ble_eq_true rfl | (simp only [List.length_append, List.length_cons, List.length_nil]; omega) | (simp only [List.length_append]; omega)); (case s_z => with_unfolding_all rfl))); intro _ _)
  k_with "m subscriptTail Tuple" => (k_here; (with_reducible show wpAny _ _ (subscriptTail _ _ (Value.ref _) (Value.int _ _)) _ _ _); k_dflt (first | (refine' sub_list_any ?N_z ?m_z ?a_z ?b_z ?z_z ?s_z ?_; (case N_z => k_asm); (case m_z => k_mem); (case a_z => omega); (case b_z => first | (simp only [List.length_cons, List.length_nil]; omega) | (simp only [List.length_append, List.length_cons, List.length_nil]; omega) | (simp only [List.length_append]; omega)); (case z_z => first | exact Nat.le_of_ble_eq_true rfl | (simp only [List.length_append, List.length_cons, List.length_nil]; omega) | (simp only [List.length_append]; omega)); (case s_z => with_unfolding_all rfl)) | (refine' sub_tup_any ?N_z ?m_z ?a_z ?b_z ?z_z ?s_z ?_; (case N_z => k_asm); (case m_z => k_mem); (case a_z => omega); (case b_z => first | (simp only [List.length_cons, List.length_nil]; omega) | (simp only [List.length_append, List.length_cons, List.length_nil]; omega) | (simp only [List.length_append]; omega)); (case z_z => first | exact Nat.le_of_ble_eq_true rfl | (simp only [List.length_append, List.length_cons, List.length_nil]; omega) | (simp only [List.length_append]; omega)); (case s_z => with_unfolding_all rfl))); intro _ _)
  k_with "m subscriptTail List" => (k_here; (with_reducible show wpAny _ _ (subscriptTail _ _ (Value.ref _) (Value.int _ _)) _ _ _); k_dflt (first | (refine' sub_list_any ?N_z ?m_z ?a_z ?b_z ?z_z ?s_z ?_; (case N_z => k_asm); (case m_z => k_mem); (case a_z => omega); (case b_z => first | (simp only [List.length_cons, List.length_nil]; omega) | (simp only [List.length_append, List.length_cons, List.length_nil]; omega) | (simp only [List.length_append]; omega)); (case z_z => first | exact Nat.le_of_ble_eq_true rfl | (simp only [List.length_append, List.length_cons, List.length_nil]; omega) | (simp only [List.length_append]; omega)); (case s_z => with_unfolding_all rfl)) | (refine' sub_tup_any ?N_z ?m_z ?a_z ?b_z ?z_z ?s_z ?_; (case N_z => k_asm); (case m_z => k_mem); (case a_z => omega); (case b_z => first | (simp only [List.length_cons, List.length_nil]; omega) | (simp only [List.length_append, List.length_cons, List.length_nil]; omega) | (simp only [List.length_append]; omega)); (case z_z => first | exact Nat.le_of_ble_eq_true rfl | (simp only [List.length_append, List.length_cons, List.length_nil]; omega) | (simp only [List.length_append]; omega)); (case s_z => with_unfolding_all rfl))); intro _ _)
  k_with "m execs cons" => (k_here; (with_reducible show wpAny _ _ _ _ _ (Shared.mk _ _ _ (_ + 1) _)); refine gen_toks ?_; intro (tk : Nat))
  trivial
theorem PairG.keep {h h' h₁ : Heap} {C D I : Addr} {kvs : List (Str × Value)} {as : List Addr} (x : PairG prog w h h₁ C D I kvs as) (hk : ∀ b o, b ≠ C → b ≠ D → b ≠ I → h.get? b = some o → h'.get? b = some o) : PairG prog w h' h₁ C D I kvs as :=
  ⟨x.1, fun j a hj => by
    obtain ⟨key, k, y, e1, e2, e3, e4, e5, e6, e7⟩ := x.2 j a hj
    exact ⟨key, k, y, e1, e2, hk a _ e4 e5 e6 e3, e4, e5, e6, e7⟩⟩
theorem PairG.snoc {h h₁ : Heap} {C D I T : Addr} {kvs : List (Str × Value)} {as : List Addr} {key : Value} {k : Str} {y : Value} (x : PairG prog w h h₁ C D I kvs as) (e2 : (PySem.strKind prog w).is k key = true) (e3 : h.get? T = some (tupO [key, y])) (e4 : T ≠ C) (e5 : T ≠ D) (e6 : T ≠ I) (e7 : h₁.get? T = none) :
    PairG prog w h h₁ C D I (kvs ++ [(k, y)]) (as ++ [T]) :=
  ⟨by simp [x.1], fun j a hj => by
    rcases Nat.lt_trichotomy j as.length with hl | hl | hl
    · rw [List.getElem?_append_left hl] at hj
      obtain ⟨key', k', y', f1, f⟩ := x.2 j a hj
      exact ⟨key', k', y', by rw [List.getElem?_append_left (by rw [← x.1]; exact hl)]; exact f1, f⟩
    · subst hl
      have ea : T = a := by simpa using hj
      subst ea
      exact ⟨key, k, y, by rw [x.1]; simp, e2, e3, e4, e5, e6, e7⟩
    · have hnone : (as ++ [T])[j]? = none := List.getElem?_eq_none (by rw [List.length_append, List.length_singleton]; omega)
      rw [hnone] at hj; cases hj⟩

theorem pair_loop {elt iter : PySem.Expr} {x : Str} {px : Pos} {ifs : List PySem.Expr} {scope : Scope} {pos : Pos} {I d D ep : Nat} {kvs : List (Str × Value)} {p : Str → Bool} {h₁ : Heap} {R : Result → Shared → Prop}
    {cenv : PySem.Env} {m : Str → Option Value} (hh : A.handled = none) (hId : d ≠ I)
    (hx : cenv.kindOf x = some .local) (hp : (cenv.scope.kind == .class || (cenv.scope.kind == .module && cenv.locals != cenv.globals)) = false)
    (hDC : D ≠ cenv.locals) (hDf : D ≠ I ∧ D ≠ d) (hCf : cenv.locals ≠ I ∧ cenv.locals ≠ d) (hfr : h₁.get? cenv.locals = none ∧ h₁.get? D = none ∧ h₁.get? I = none)
    (hn0 : (kvs.map (·.1)).Nodup) (hsz : kvs.length ≤ 100000) {St : Nat → Heap → Prop} {P : Nat → Value → Prop} (W : Walks prog w A I [I, d] [I] kvs.length P St) (hP : ∀ i v, P i v → ∃ k y, kvs[i]? = some (k, y) ∧ (PySem.strKind prog w).is k v = true)
    (hlive : ∀ i h, St i h → ∃ o, h.get? I = some o)
    (hst : St 0 s.heap) (hacc : s.heap.PlainList D #[]) (hn : s.heap.Ns cenv.locals m) (hold : ∀ b o, h₁.get? b = some o → s.heap.get? b = some o)
    (tests : ∀ k yv key s₂ m₂ E', valueAt kvs k = some yv → (PySem.strKind prog w).is k key = true → s₂.heap.Ns cenv.locals m₂ → m₂ x = some key → (∀ b o, h₁.get? b = some o → s₂.heap.get? b = some o) →
        wpAny (model prog w) A (forIn ifs true fun c r => if r = true then do let ok ← PySem.isTrue c cenv (eval c cenv); pure (ForInStep.yield ok) else pure (ForInStep.yield r))
          (fun ok s₃ => ok = p k ∧ Keeps s₂ s₃) E' s₂)
    (item : ∀ k yv key s₂ m₂ E', valueAt kvs k = some yv → (PySem.strKind prog w).is k key = true → p k = true → s₂.heap.Ns cenv.locals m₂ → m₂ x = some key → (∀ b o, h₁.get? b = some o → s₂.heap.get? b = some o) →
        wpAny (model prog w) A (eval elt cenv) (fun y s₃ => (∃ T, y = .ref T ∧ s₂.heap.get? T = none ∧ s₃.heap.get? T = some (tupO [key, yv])) ∧ Keeps s₂ s₃) E' s₂)
    (hR : ∀ h' tk m' as, h'.Ns cenv.locals m' → h'.PlainList D (as.map Value.ref).toArray → PairG prog w h' h₁ cenv.locals D I (kvs.filter fun q => p q.1) as →
      (∀ b o, h₁.get? b = some o → h'.get? b = some o) → R (.ok .next) { s with heap := h', toks := tk }) :
    codeAny (model prog w) A (.compLoop (.ListComp elt [⟨.Name x px, iter, ifs, 0⟩] scope pos) 0 (.ref I) (.ref D) cenv) R s := by
  have hCw : cenv.locals ∉ [I] := by simpa using hCf.1
  have hDw : D ∉ [I] := by simpa using hDf.1
  have off : ∀ b o, h₁.get? b = some o → b ≠ cenv.locals ∧ b ≠ D ∧ b ≠ I := fun b o e =>
    ⟨fun z => (by rw [z, hfr.1] at e; cases e), fun z => (by rw [z, hfr.2.1] at e; cases e), fun z => (by rw [z, hfr.2.2] at e; cases e)⟩
  refine codeAny_compLoop_tests
    (fun k s' => ∃ h' tk m' as i, s' = { s with heap := h', toks := tk } ∧ St i h' ∧ h'.PlainList D (as.map Value.ref).toArray ∧ h'.Ns cenv.locals m' ∧
      PairG prog w h' h₁ cenv.locals D I ((kvs.take i).filter fun q => p q.1) as ∧ i ≤ kvs.length ∧ k = kvs.length + 1 - i ∧ (∀ b o, h₁.get? b = some o → h'.get? b = some o)) ?_ (kvs.length + 1)
    ⟨s.heap, s.toks, m, [], 0, rfl, hst, hacc, hn, ⟨rfl, fun j a hj => by simp at hj⟩, Nat.zero_le _, rfl, hold⟩
  rintro k s' ⟨H, tk, m', as, i, rfl, hst', hacc', hn', hG, hi, rfl, hk⟩
  by_cases hlt : i < kvs.length
  · refine W.item i _ _ _ hlt hst' fun v h₂ tk₁ hPv hst₁ hk₁ => ?_
    obtain ⟨kk, yv, hkv, hkey⟩ := hP i v hPv
    have hval : valueAt kvs kk = some yv := valueAt_of_mem hn0 (List.mem_of_getElem? hkv)
    refine wpAny_assign_Name (wpAny_storeName_local hx (hn'.at' fun o e => hk₁ _ o hCw e) (fun h₃ hn₃ hs₃ => ?_) hp)
    have up₃ : ∀ b o, b ≠ cenv.locals → b ≠ I → H.get? b = some o → h₃.get? b = some o := fun b o hbC hbI e => hs₃.extBut b o hbC (hk₁ b o (by simpa using hbI) e)
    have old₃ : ∀ b o, h₁.get? b = some o → h₃.get? b = some o := fun b o e => up₃ b o (off b o e).1 (off b o e).2.2 (hk b o e)
    have hst₃ : St (i + 1) h₃ := W.frame _ _ _ hst₁ fun b hb o e => hs₃.extBut b o (fun z => by
      rcases List.mem_cons.mp hb with q | q
      · exact hCf.1 (z ▸ q)
      · exact hCf.2 (z ▸ List.mem_singleton.mp q)) e
    refine wpAny_mono (tests kk yv v _ _ _ hval hkey hn₃ (by simp) old₃) (fun ok s₄ h₄ => ?_) fun _ _ e => e
    obtain ⟨rfl, h₄, tk₄, rfl, hk₄⟩ := h₄
    have hst₄ : St (i + 1) h₄ := W.frame _ _ _ hst₃ fun b _ o e => hk₄ b o e
    have hacc₄ : h₄.PlainList D (as.map Value.ref).toArray := hacc'.at fun o e => hk₄ _ o (up₃ D o hDC hDf.1 e)
    have hn₄ := hn₃.keeps hk₄
    have hG₄ := hG.keep (h' := h₄) fun b o hbC _ hbI e => hk₄ b o (up₃ b o hbC hbI e)
    have htake : (kvs.take (i + 1)).filter (fun q => p q.1) = (kvs.take i).filter (fun q => p q.1) ++ (if p kk then [(kk, yv)] else []) := by
      rw [List.take_add_one, hkv, List.filter_append]
      simp only [Option.toList, List.filter_cons, List.filter_nil]
    cases hpv : p kk with
    | false =>
      simp only [Bool.false_eq_true, if_false]
      refine ⟨kvs.length + 1 - (i + 1), by omega, h₄, tk₄, _, as, i + 1, rfl, hst₄, hacc₄, hn₄, ?_, hlt, rfl, fun b o e => hk₄ b o (old₃ b o e)⟩
      rw [htake, hpv]; simpa using hG₄
    | true =>
      simp only [if_true]
      refine wpAny_mono (item kk yv v _ _ _ hval hkey hpv hn₄ (by simp) fun b o e => hk₄ b o (old₃ b o e)) (fun y s₅ h₅ => ?_) fun _ _ e => e
      obtain ⟨⟨T, rfl, hTnew, hT⟩, h₅, tk₅, rfl, hk₅⟩ := h₅
      have hTC : T ≠ cenv.locals := by obtain ⟨_, _, _, ho, _⟩ := hn₄; exact ne_of_none_some hTnew ho
      have hTD : T ≠ D := by obtain ⟨_, ho⟩ := hacc₄; exact ne_of_none_some hTnew ho
      have hTI : T ≠ I := by obtain ⟨o, ho⟩ := hlive _ _ hst₄; exact ne_of_none_some hTnew ho
      have hTs : h₁.get? T = none := by
        cases e : h₁.get? T with
        | none => rfl
        | some o => exact absurd rfl (ne_of_none_some hTnew (hk₄ T o (old₃ T o e)))
      refine wpAny_list_append_plain (hacc₄.at fun o e => hk₅ _ o e) (fun h₆ hl₆ hs₆ => ?_) (by
        have e1 := hG.1
        have e2 : ((kvs.take i).filter fun q => p q.1).length ≤ (kvs.take i).length := List.length_filter_le _ _
        have e3 : (kvs.take i).length ≤ kvs.length := by rw [List.length_take]; exact Nat.min_le_right _ _
        rw [List.size_toArray, List.length_map, sizeLine_eq]; omega)
      refine ⟨kvs.length + 1 - (i + 1), by omega, h₆, tk₅, _, as ++ [T], i + 1, rfl, ?_, ?_, (hn₄.keeps hk₅).sameBut hs₆ (Ne.symm hDC), ?_, hlt, rfl, fun b o e => hs₆.extBut b o (off b o e).2.1 (hk₅ b o (hk₄ b o (old₃ b o e)))⟩
      · exact W.frame _ _ h₆ hst₄ fun b hb o e => hs₆.extBut b o (fun z => by
          rcases List.mem_cons.mp hb with q | q
          · exact hDf.1 (z ▸ q)
          · exact hDf.2 (z ▸ List.mem_singleton.mp q)) (hk₅ b o e)
      · rw [List.push_toArray] at hl₆
        rw [List.map_append]; exact hl₆
      · rw [htake, hpv, if_pos rfl]
        exact (hG₄.keep fun b o _ hbD _ e => hs₆.extBut b o hbD (hk₅ b o e)).snoc hkey (hs₆.extBut T _ hTD hT) hTC hTD hTI hTs
  · have hin : i = kvs.length := by omega
    subst hin
    refine W.done _ _ _ hst' fun h₂ tk₁ hk₁ => ?_
    rw [List.take_length] at hG
    exact hR h₂ tk₁ m' as (hn'.at' fun o e => hk₁ _ o hCw e) (hacc'.at fun o e => hk₁ _ o hDw e) (hG.keep fun b o _ _ hbI e => hk₁ b o (by simpa using hbI) e) fun b o e => hk₁ b o (by simpa using (off b o e).2.2) (hk b o e)
end

section
variable {prog : Program} {w : World} {A : Around} {E : Value → Shared → Prop} {s : Shared} {h₀ : Heap} {L : Addr} {m : Str → Option Value} {env : PySem.Env}
inductive PCL (prog : Program) (w : World) (A : Around) (env : PySem.Env) (scope : Scope) (cl : List (Str × Addr)) (x : Str) (ifs : List PySem.Expr) (elt : PySem.Expr) (d : Addr) (s₁ : Shared)
    (h₀ : Heap) (L : Addr) (m : Str → Option Value) (news : Led) (Q : Value → Shared → Prop) : Prop
  | mk {o : Obj} {kvs : List (Str × Value)} {p : Str → Bool} (F : Fr h₀ L s₁.heap m) (N : News h₀ L s₁.heap news) (hm : (d, o) ∈ news) (hd : o.IsDictOf (PySem.strKind prog w) kvs) (lo : (d == sysModules) = false) (hsz : kvs.length ≤ 100000)
    (tests : ∀ C k yv key s₂ m₂ E', valueAt kvs k = some yv → (PySem.strKind prog w).is k key = true → s₂.heap.Ns (compEnvC scope cl C env).locals m₂ → m₂ x = some key → (∀ b o, s₁.heap.get? b = some o → s₂.heap.get? b = some o) →
        wpAny (model prog w) A (forIn ifs true fun c r => if r = true then do let ok ← PySem.isTrue c (compEnvC scope cl C env) (eval c (compEnvC scope cl C env)); pure (ForInStep.yield ok) else pure (ForInStep.yield r))
          (fun ok s₃ => ok = p k ∧ Keeps s₂ s₃) E' s₂)
    (item : ∀ C k yv key s₂ m₂ E', valueAt kvs k = some yv → (PySem.strKind prog w).is k key = true → p k = true → s₂.heap.Ns (compEnvC scope cl C env).locals m₂ → m₂ x = some key → (∀ b o, s₁.heap.get? b = some o → s₂.heap.get? b = some o) →
        wpAny (model prog w) A (eval elt (compEnvC scope cl C env)) (fun y s₃ => (∃ T, y = .ref T ∧ s₂.heap.get? T = none ∧ s₃.heap.get? T = some (tupO [key, yv])) ∧ Keeps s₂ s₃) E' s₂)
    (cont : ∀ S vs tups n' h' tk, Fr h₀ L h' m → News h₀ L h' ((S, PySem.W.listOf vs.toArray n') :: (tups ++ news)) → PairsAre prog w tups vs (kvs.filter fun q => p q.1) → Q (.ref S) { s₁ with heap := h', toks := tk }) :
    PCL prog w A env scope cl x ifs elt d s₁ h₀ L m news Q
theorem kwcomppair242 : True := by
  k_with_none
  k_with "m call builtin:len" => (k_here; (with_reducible show wpAny _ _ (call (Value.builtin "len") [Value.ref _]) _ _ _); k_dflt (refine' len_led ?k1_z ?k2_z ?k3_z ?k4_z ?_; (case k1_z => k_asm); (case k2_z => k_mem); (case k3_z => with_reducible assumption); (case k4_z => omega)))
  k_with "m ite" => (k_closed; with_reducible (first | refine ite_tt ?_ | refine ite_ff ?_ | refine PySem.W.ite_neg (by decide) ?_ | refine PySem.W.ite_pos (by decide) ?_))
  k_with "m subscriptTail" => (k_here; (with_reducible show wpAny _ _ (subscriptTail _ _ (Value.ref _) (Value.int _ _)) _ _ _); k_dflt (first | (refine' sub_list ?N_z ?m_z ?a_z ?b_z ?x_z ?s_z ?_; (case N_z => k_asm); (case m_z => k_mem); (case a_z => decide); (case b_z => decide); (case x_z => rfl); (case s_z => with_unfolding_all rfl)) | (refine' sub_tup ?N_z ?m_z ?a_z ?b_z ?j_z ?x_z ?s_z ?_; (case N_z => k_asm); (case m_z => k_mem); (case a_z => decide); (case b_z => decide); (case j_z => rfl); (case x_z => rfl); (case s_z => with_unfolding_all rfl))))
  k_with "m subscriptTail Name Call ref int" => (k_here; (with_reducible show wpAny _ _ (subscriptTail _ _ (Value.ref _) (Value.int _ _)) _ _ _); k_dflt (first | (refine' sub_list_any ?N_z ?m_z ?a_z ?b_z ?z_z ?s_z ?_; (case N_z => k_asm); (case m_z => k_mem); (case a_z => omega); (case b_z => first | (simp only [List.length_cons, List.length_nil]; omega) | (simp only [List.length_append, List.length_cons, List.length_nil]; omega) | (simp only [List.length_append]; omega)); (case z_z => first | exact Nat.le_of_ble_eq_true rfl | (simp only [List.length_append, List.length_cons, List.length_nil]; omega) | (simp only [List.length_append]; omega)); (case s_z => with_unfolding_all rfl)) | (refine' sub_tup_any ?N_z ?m_z ?a_z ?b_z ?z_z ?s_z ?_; (case N_z => k_asm); (case m_z => k_mem); (case a_z => omega); (case b_z => first | (simp only [List.length_cons, List.length_nil]; omega) | (simp only [List.length_append, List.length_cons, List.length_nil]; omega) | (simp only [List.length_append]; omega)); (case z_z => first | exact Nat.le_of_ble_eq_true rfl | (simp only [List.length_append, List.length_cons, List.length_nil]; omega) | (simp only [List.length_append]; omega)); (case s_z => with_unfolding_all rfl))); intro _ _)
  k_with "m subscriptTail Tuple" => (k_here; (with_reducible show wpAny _ _ (subscriptTail _ _ (Value.ref _) (Value.int _ _)) _ _ _); k_dflt (first | (refine' sub_list_any ?N_z ?m_z ?a_z ?b_z ?z_z ?s_z ?_; (case N_z => k_asm); (case m_z => k_mem); (case a_z => omega); (case b_z => first | (simp only [List.length_cons, List.length_nil]; omega) | (simp only [List.length_append, List.length_cons, List.length_nil]; omega) | (simp only [List.length_append]; omega)); (case z_z => first | exact Nat.le_of_ble_eq_true rfl | (simp only [List.length_append, List.length_cons, List.length_nil]; omega) | (simp only [List.length_append]; omega)); (case s_z => with_unfolding_all rfl)) | (refine' sub_tup_any ?N_z ?m_z ?a_z ?b_z ?z_z ?s_z ?_; (case N_z => k_asm); (case m_z => k_mem); (case a_z => omega); (case b_z => first | (simp only [List.length_cons, List.length_nil]; omega) | (simp only [List.length_append, List.length_cons, List.length_nil]; omega) | (simp only [List.length_append]; omega)); (case z_z => first | exact Nat.le_of_ble_eq_true rfl | (simp only [List.length_append, List.length_cons, List.length_nil]; omega) | (simp only [List.length_append]; omega)); (case s_z => with_unfolding_all rfl))); intro _ _)
  k_with "m subscriptTail List" => (k_here; (with_reducible show wpAny _ _ (subscriptTail _ _ (Value.ref _) (Value.int _ _)) _ _ _); k_dflt (first | (refine' sub_list_any ?N_z ?m_z ?a_z ?b_z ?z_z ?s_z ?_; (case N_z => k_asm); (case m_z => k_mem); (case a_z => omega); (case b_z => first | (simp only [List.length_cons, List.length_nil]; omega) | (simp only [List.length_append, List.length_cons, List.length_nil]; omega) | (simp only [List.length_append]; omega)); (case z_z => first | exact Nat.le_of_ble_eq_true rfl | (simp only [List.length_append, List.length_cons, List.length_nil]; omega) | (simp only [List.length_append]; omega)); (case s_z => with_unfolding_all rfl)) | (refine' sub_tup_any ?N_z ?m_z ?a_z ?b_z ?z_z ?s_z ?_; (case N_z => k_asm); (case m_z => k_mem); (case a_z => omega); (case b_z => first | (simp only [List.length_cons, List.length_nil]; omega) | (simp only [List.length_append, List.length_cons, List.length_nil]; omega) | (simp only [List.length_append]; omega)); (case z_z => first | exact Nat.le_of_ble_eq_true rfl | (simp only [List.length_append, List.length_cons, List.length_nil]; omega) | (simp only [List.length_append]; omega)); (case s_z => with_unfolding_all rfl))); intro _ _)
  k_with "m execs cons" => (k_here; (with_reducible show wpAny _ _ _ _ _ (Shared.mk _ _ _ (_ + 1) _)); refine gen_toks ?_; intro (tk : Nat))
  trivial
theorem pairs_of_g2 {h h₁ : Heap} {C D I : Addr} : ∀ (kvs : List (Str × Value)) (as : List Addr), PairG prog w h h₁ C D I kvs as →
    ∃ tups : Led, (∀ q ∈ tups, h.get? q.1 = some q.2 ∧ h₁.get? q.1 = none ∧ q.1 ≠ C) ∧ PairsAre prog w tups (as.map Value.ref) kvs
  | [], [], _ => ⟨[], fun _ h => absurd h List.not_mem_nil, .nil⟩
  | [], _ :: _, h => by have := h.1; simp at this
  | _ :: _, [], h => by have := h.1; simp at this
  | (k, x) :: kvs, a :: as, hp => by
    obtain ⟨key, k', x', e1, e2, e3, e4, e5, e6, e7⟩ := hp.2 0 a rfl
    have e1' : k = k' ∧ x = x' := by simpa using e1
    obtain ⟨rfl, rfl⟩ := e1'
    obtain ⟨tups, h1, h2⟩ := pairs_of_g2 kvs as ⟨by simpa using hp.1, fun j b hb => by
      obtain ⟨key, k, x, f1, f⟩ := hp.2 (j + 1) b (by simpa using hb)
      exact ⟨key, k, x, by simpa using f1, f⟩⟩
    refine ⟨(a, tupO [key, x]) :: tups, fun q hq => ?_, .cons List.mem_cons_self e2 (h2.mono fun q hq => List.mem_cons_of_mem _ hq)⟩
    rcases List.mem_cons.mp hq with rfl | hq
    · exact ⟨e3, e7, e4⟩
    · exact h1 q hq
theorem listcomp_pairs {elt iter : PySem.Expr} {x : Str} {px : Pos} {ifs : List PySem.Expr} {scope : Scope} {cl : List (Str × Addr)} {pos : Pos} {Q : Value → Shared → Prop}
    (_F : Fr h₀ L s.heap m) (hh : A.handled = none) (hclos : closureFor scope env = pure cl) (hcell : ∀ y ∈ scope.names, y.2 ≠ .cell) (hkind : scope.kind = .function)
    (hnames : ∀ y ∈ scope.names, y.2 = .local → scope.names.lookup y.1 = some .local) (hx : scope.names.lookup x = some .local)
    (hs : ∀ x, foldedSetIterable iter env x = pure x)
    (h : wpAny (model prog w) A (eval iter env) (fun xv s₁ => ∃ d news, xv = .ref d ∧ PCL prog w A env scope cl x ifs elt d s₁ h₀ L m news Q) E s) :
    wpAny (model prog w) A (eval (.ListComp elt [⟨.Name x px, iter, ifs, 0⟩] scope pos) env) Q E s := by
  clear _F
  rw [eval_ListComp]
  refine wpAny_comprehension_free (use := none) rfl hs hclos hkind hnames (wpAny_mono h (fun xv s₁ h₁ => ?_) fun _ _ e => e)
  obtain ⟨d, news, rfl, X⟩ := h₁
  obtain ⟨F, N, hm, hd, lo, hsz, htests, hitem, hQ⟩ := X
  rename_i o kvs p
  have hD := kda_dict N hm hd
  obtain ⟨ep, hA⟩ := Heap.DictOf.dictAt hD
  have hlt : @LT.lt Nat _ d s₁.heap.objs.size := Heap.lt_size (N _ hm).1
  refine wpAny_pyIter_dict lo hA ?_
  refine wpAny_newObj_type (wpAny_newFunctionEnv hcell (fun _ h => nomatch h) (fun h₃ ns₃ sb₃ => ?_) hkind)
  dsimp only at ns₃ sb₃ ⊢
  generalize hH1 : s₁.heap.push { cls := .type "dict_keyiterator", data := .fields #[.ref d, .int 0 0, .int kvs.length 0, .int ep 0] } = H1 at ns₃ sb₃ ⊢
  have hs1 : H1.objs.size = s₁.heap.objs.size + 1 := by rw [← hH1, Heap.size_push]
  have hI1 : H1.get? s₁.heap.objs.size = some { cls := .type "dict_keyiterator", data := .fields #[.ref d, .int 0 0, .int kvs.length 0, .int ep 0] } := by rw [← hH1]; exact Heap.get?_push_size _ rfl
  have old1 : ∀ b o, s₁.heap.get? b = some o → H1.get? b = some o := fun b o e => by rw [← hH1]; exact Heap.get?_push_of_some _ e
  generalize hC : (H1.push { cls := .type "list", dict := none, data := .seq ([] : List Value).toArray }).objs.size = C at ns₃ sb₃ ⊢
  have hCs : C = H1.objs.size + 1 := by rw [← hC, Heap.size_push]
  have old3 : ∀ b o, H1.get? b = some o → h₃.get? b = some o := fun b o e =>
    sb₃.extBut b o (by rw [hCs]; exact Nat.ne_of_lt (Nat.lt_succ_of_lt (Heap.lt_size e))) (Heap.get?_push_of_some _ (Heap.get?_push_of_some _ e))
  have hDC : H1.objs.size ≠ C := by rw [hCs]; exact Nat.ne_of_lt (Nat.lt_succ_self _)
  have acc₃ : h₃.PlainList H1.objs.size #[] := ⟨_, sb₃.extBut _ _ hDC (Heap.get?_push_of_some _ (Heap.get?_push_size _ rfl))⟩
  have fresh : ∀ q, s₁.heap.objs.size ≤ q → s₁.heap.get? q = none := fun q hq => Heap.get?_none_of_le hq
  have W := Walks.dictKeys (prog := prog) (w := w) (knd := PySem.strKind prog w) hh s₁.heap.objs.size d (Nat.ne_of_lt hlt) kvs ep
  have go : codeAny (model prog w) A (.compLoop (.ListComp elt [⟨.Name x px, iter, ifs, 0⟩] scope pos) 0 (.ref s₁.heap.objs.size) (.ref H1.objs.size) (compEnvC scope cl C env))
      (compPost (model prog w) A E none Q (.ref H1.objs.size) C) { s₁ with heap := h₃, toks := s₁.toks + 0 } := by
    refine pair_loop (h₁ := s₁.heap) (kvs := kvs) (p := p) (ep := ep) hh (Nat.ne_of_lt hlt) (lookup_relabel_local hx) (by simp [compEnvC, relabel, hkind]) hDC ⟨by rw [hs1]; exact Nat.ne_of_gt (Nat.lt_succ_self _), by rw [hs1]; exact Nat.ne_of_gt (Nat.lt_succ_of_lt hlt)⟩
      ⟨by show C ≠ _; rw [hCs, hs1]; exact Nat.ne_of_gt (Nat.lt_succ_of_lt (Nat.lt_succ_self _)), by show C ≠ _; rw [hCs, hs1]; exact Nat.ne_of_gt (Nat.lt_succ_of_lt (Nat.lt_succ_of_lt hlt))⟩
      ⟨fresh _ (by show _ ≤ C; rw [hCs, hs1]; exact Nat.le_of_lt (Nat.lt_succ_of_lt (Nat.lt_succ_self _))), fresh _ (by rw [hs1]; exact Nat.le_succ _), fresh _ (Nat.le_refl _)⟩
      (dict_nodup hd) hsz W (fun i v h => ?_) (fun i h st => ?_) ?_ acc₃ ns₃ (fun b o e => old3 b o (old1 b o e)) (fun k yv key s₂ m₂ E' a b c d e => htests C k yv key s₂ m₂ E' a b c d e) (fun k yv key s₂ m₂ E' a b c d e f => hitem C k yv key s₂ m₂ E' a b c d e f) ?_
    · exact h
    · obtain ⟨⟨o, ho, _⟩, _⟩ := st
      exact ⟨o, ho⟩
    · exact ⟨⟨_, old3 _ _ hI1, rfl, rfl⟩, hA.at' fun o e => old3 _ o (old1 _ o e)⟩
    · intro h' tk m' as hn' hl' hG hk
      obtain ⟨tups, h1, h2⟩ := pairs_of_g2 _ as hG
      refine ⟨m', hn', fun h₄ sb₄ => ?_⟩
      obtain ⟨n', hn4⟩ := hl'.extBut sb₄.extBut hDC
      have keep : ∀ b o, s₁.heap.get? b = some o → h₄.get? b = some o := fun b o e =>
        sb₄.extBut b o (fun z => by rw [z, fresh C (by rw [hCs, hs1]; exact Nat.le_of_lt (Nat.lt_succ_of_lt (Nat.lt_succ_self _)))] at e; cases e) (hk b o e)
      refine hQ H1.objs.size _ tups n' h₄ tk (F.keeps keep) (fun q hq => ?_) h2
      have fr : ∀ q, s₁.heap.get? q = none → q ≠ L ∧ h₀.get? q = none := fun q hq => by
        refine ⟨?_, ?_⟩
        · obtain ⟨o, _, _, ho, _⟩ := F.ns
          rintro rfl
          rw [hq] at ho; cases ho
        · cases e : h₀.get? q with
          | none => rfl
          | some o => have := F.keep _ _ e; rw [hq] at this; cases this
      rcases List.mem_cons.mp hq with rfl | hq
      · exact ⟨hn4, fr _ (fresh _ (by rw [hs1]; exact Nat.le_succ _))⟩
      · rcases List.mem_append.mp hq with hq | hq
        · obtain ⟨a1, a2, a3⟩ := h1 q hq
          exact ⟨sb₄.extBut _ _ a3 a1, fr _ a2⟩
        · exact ⟨keep _ _ (N q hq).1, (N q hq).2⟩
  exact codeAny_compStart_list go (W.self 0 _ _ _ ⟨⟨_, old3 _ _ hI1, rfl, rfl⟩, hA.at' fun o e => old3 _ o (old1 _ o e)⟩ go)
end

section
variable {prog : Program} {w : World} {A : Around} {E : Value → Shared → Prop} {s : Shared} {env : Env} {h₀ : Heap} {x : Str} {body : List Stmt} {Q : Flow → Shared → Prop} {m₀ : Str → Option Value} {news : Led}
theorem kwroute043 : True := by
  k_with_none
  k_with "m call builtin:len" => (k_here; (with_reducible show wpAny _ _ (call (Value.builtin "len") [Value.ref _]) _ _ _); k_dflt (refine' len_led ?k1_z ?k2_z ?k3_z ?k4_z ?_; (case k1_z => k_asm); (case k2_z => k_mem); (case k3_z => with_reducible assumption); (case k4_z => omega)))
  k_with "m ite" => (k_closed; with_reducible (first | refine ite_tt ?_ | refine ite_ff ?_ | refine PySem.W.ite_neg (by decide) ?_ | refine PySem.W.ite_pos (by decide) ?_))
  k_with "m subscriptTail" => (k_here; (with_reducible show wpAny _ _ (subscriptTail _ _ (Value.ref _) (Value.int _ _)) _ _ _); k_dflt (first | (refine' sub_list ?N_z ?m_z ?a_z ?b_z ?x_z ?s_z ?_; (case N_z => k_asm); (case m_z => k_mem); (case a_z => decide); (case b_z => decide); (case x_z => rfl); (case s_z => with_unfolding_all rfl)) | (refine' sub_tup ?N_z ?m_z ?a_z ?b_z ?j_z ?x_z ?s_z ?_; (case N_z => k_asm); (case m_z => k_mem); (case a_z => decide); (case b_z => decide); (case j_z => rfl); (case x_z => rfl); (case s_z => with_unfolding_all rfl))))
  k_with "m subscriptTail Name Call ref int" => (k_here; (with_reducible show wpAny _ _ (subscriptTail _ _ (Value.ref _) (Value.int _ _)) _ _ _); k_dflt (first | (refine' sub_list_any ?N_z ?m_z ?a_z ?b_z ?z_z ?s_z ?_; (case N_z => k_asm); (case m_z => k_mem); (case a_z => omega); (case b_z => first | (simp only [List.length_cons, List.length_nil]; omega) | (simp only [List.length_append, List.length_cons, List.length_nil]; omega) | (simp only [List.length_append]; omega)); (case z_z => first | exact Nat.le_of_ble_eq_true rfl | (simp only [List.length_append, List.length_cons, List.length_nil]; omega) | (simp only [List.length_append]; omega)); (case s_z => with_unfolding_all rfl)) | (refine' sub_tup_any ?N_z ?m_z ?a_z ?b_z ?z_z ?s_z ?_; (case N_z => k_asm); (case m_z => k_mem); (case a_z => omega); (case b_z => first | (simp only [List.length_cons, List.length_nil]; omega) | (simp only [List.length_append, List.length_cons, List.length_nil]; omega) | (simp only [List.length_append]; omega)); (case z_z => first | exact Nat.le_of_ble_eq_true rfl | (simp only [List.length_append, List.length_cons, List.length_nil]; omega) | (simp only [List.length_append]; omega)); (case s_z => with_unfolding_all rfl))); intro _ _)
  k_with "m subscriptTail Tuple" => (k_here; (with_reducible show wpAny _ _ (subscriptTail _ _ (Value.ref _) (Value.int _ _)) _ _ _); k_dflt (first | (refine' sub_list_any ?N_z ?m_z ?a_z ?b_z ?z_z ?s_z ?_; (case N_z => k_asm); (case m_z => k_mem); (case a_z => omega); (case b_z => first | (simp only [List.length_cons, List.length_nil]; omega) | (simp only [List.length_append, List.length_cons, List.length_nil]; omega) | (simp only [List.length_append]; omega)); (case z_z => first | exact Nat.le_of_ble_eq_true rfl | (simp only [List.length_append, List.length_cons, List.length_nil]; omega) | (simp only [List.length_append]; omega)); (case s_z => with_unfolding_all rfl)) | (refine' sub_tup_any ?N_z ?m_z ?a_z ?b_z ?z_z ?s_z ?_; (case N_z => k_asm); (case m_z => k_mem); (case a_z => omega); (case b_z => first | (simp only [List.length_cons, List.length_nil]; omega) | (simp only [List.length_append, List.length_cons, List.length_nil]; omega) | (simp only [List.length_append]; omega)); (case z_z => first | exact Nat.le_of_ble_eq_true rfl | (simp only [List.length_append, List.length_cons, List.length_nil]; omega) | (simp only [List.length_append]; omega)); (case s_z => with_unfolding_all rfl))); intro _ _)
  k_with "m subscriptTail List" => (k_here; (with_reducible show wpAny _ _ (subscriptTail _ _ (Value.ref _) (Value.int _ _)) _ _ _); k_dflt (first | (refine' sub_list_any ?N_z ?m_z ?a_z ?b_z ?z_z ?s_z ?_; (case N_z => k_asm); (case m_z => k_mem); (case a_z => omega); (case b_z => first | (simp only [List.length_cons, List.length_nil]; omega) | (simp only [List.length_append, List.length_cons, List.length_nil]; omega) | (simp only [List.length_append]; omega)); (case z_z => first | exact Nat.le_of_ble_eq_true rfl | (simp only [List.length_append, List.length_cons, List.length_nil]; omega) | (simp only [List.length_append]; omega)); (case s_z => with_unfolding_all rfl)) | (refine' sub_tup_any ?N_z ?m_z ?a_z ?b_z ?z_z ?s_z ?_; (case N_z => k_asm); (case m_z => k_mem); (case a_z => omega); (case b_z => first | (simp only [List.length_cons, List.length_nil]; omega) | (simp only [List.length_append, List.length_cons, List.length_nil]; omega) | (simp only [List.length_append]; omega)); (case z_z => first | exact Nat.le_of_ble_eq_true rfl | (simp only [List.length_append, List.length_cons, List.length_nil]; omega) | (simp only [List.length_append]; omega)); (case s_z => with_unfolding_all rfl))); intro _ _)
  k_with "m execs cons" => (k_here; (with_reducible show wpAny _ _ _ _ _ (Shared.mk _ _ _ (_ + 1) _)); refine gen_toks ?_; intro (tk : Nat))
  trivial
theorem iter_gtup {t : Addr} {vs : List Value} (J : Nat → (Str → Option Value) → Led → Prop)
    (hh : A.handled = none) (F : Fr h₀ env.locals s.heap m₀) (N : News h₀ env.locals s.heap news) (ht : IsTup h₀ t vs.toArray)
    (hj : J 0 m₀ news)
    (turn : ∀ I io i v m₁ news₁ h tk, (∀ p ∈ news, @LT.lt Nat _ p.1 I) → vs[i]? = some v → J i m₁ news₁ → (∀ p ∈ news₁, p.1 ≠ I) → Fr h₀ env.locals h (fun y => if y = x then some v else m₁ y) → News h₀ env.locals h ((I, io) :: news₁) →
      wpAny (model prog w) A (execs body env) (UnrPost h₀ env.locals { s with heap := h, toks := tk } I io (J (i + 1)) Q) E { s with heap := h, toks := tk })
    (done : ∀ m₁ news₁ h tk, J vs.length m₁ news₁ → Fr h₀ env.locals h m₁ → News h₀ env.locals h news₁ → Q .next { s with heap := h, toks := tk }) :
    wpAny (model prog w) A (pyIter (.ref t)) (fun it s₂ => LoopAtV prog w A h₀ env x body Q E it s₂) E s := by
  have hT : s.heap.IsTuple t vs.toArray := Heap.IsTuple.at (show h₀.IsTuple t vs.toArray from ht) fun o e => F.keep _ o e
  obtain ⟨ot, hot, hr⟩ := ht
  refine wpAny_pyIter_tuple hT ?_
  have hlt : ∀ p ∈ news, @LT.lt Nat _ p.1 s.heap.objs.size := fun p hp => Heap.lt_size (N p hp).1
  have hts : @LT.lt Nat _ t s.heap.objs.size := Heap.lt_size (F.keep _ _ hot)
  have hne : t ≠ s.heap.objs.size := Nat.ne_of_lt hts
  have W := Walks.tuple (prog := prog) (w := w) hh s.heap.objs.size t hne vs.toArray
  have hnew := next_is_new F
  have htL : t ≠ env.locals := Nat.ne_of_lt (Nat.lt_of_lt_of_le (Heap.lt_size hot) F.above)
  rw [List.size_toArray] at W
  refine ⟨_, _, _, vs.length, _, _, m₀, news, J, rfl, W, ?_, ?_, ?_, ⟨⟨_, Heap.get?_push_size _ rfl, rfl, rfl⟩, hT.at fun o e => Heap.get?_push_of_some _ e⟩, F.push _, (fun p hp => ⟨Heap.get?_push_of_some _ (N p hp).1, (N p hp).2⟩), hj, ?_, ?_⟩
  · intro hm
    rcases List.mem_cons.mp hm with e | hm
    · exact absurd F.ns.lt (e ▸ Nat.lt_irrefl _)
    · exact htL (List.mem_singleton.mp hm).symm
  · intro b hb
    rw [List.mem_singleton.mp hb]
    exact hnew
  · intro p hp hI
    exact absurd (hlt p hp) ((List.mem_singleton.mp hI) ▸ Nat.lt_irrefl _)
  · rintro i v m₁ news₁ s₁ own ⟨hh', tk', rfl⟩ hin hP hJ hoff hown hget hall hst F₁ N₁
    obtain ⟨io, hio, hic, hid⟩ := hst.1
    have hmem := hall s.heap.objs.size (by simp) hnew _ hio
    have N₂ : News h₀ env.locals hh' ((s.heap.objs.size, io) :: news₁) := fun p hp => by
      rcases List.mem_cons.mp hp with rfl | hp
      · exact N₁ _ (List.mem_append_left _ hmem)
      · exact N₁ _ (List.mem_append_right _ hp)
    have hP' : vs[i]? = some v := by simpa using hP
    have hoff' : ∀ p ∈ news₁, p.1 ≠ s.heap.objs.size := fun p hp e => hoff p hp (by rw [e]; exact List.mem_singleton.mpr rfl)
    refine wpAny_mono (turn s.heap.objs.size io i v m₁ news₁ hh' tk' hlt hP' hJ hoff' F₁ N₂) (fun f s₂ p => ?_) fun _ _ e => e
    have fin : UnrEnd h₀ env.locals { s with heap := hh', toks := tk' } s.heap.objs.size io (J (i + 1)) s₂ →
        LoopStepU h₀ env.locals [s.heap.objs.size] own (J (i + 1)) { s with heap := hh', toks := tk' } .next s₂ := by
      rintro ⟨h', tk, m', news', e, F', N', ho, r⟩
      refine ⟨rfl, h', tk, m', news', e, F', fun p hp => ?_, fun p hp hI => ho p hp (List.mem_singleton.mp hI), r⟩
      rcases List.mem_append.mp hp with hp | hp
      · have h2 : hh'.get? p.1 = some p.2 := hget p hp
        rcases List.mem_cons.mp (hown p hp) with h1 | h1
        · have h3 : p = (s.heap.objs.size, io) := by
            rw [h1, hio] at h2
            exact Prod.ext h1 (Option.some.inj h2).symm
          rw [h3]; exact N' _ List.mem_cons_self
        · have h1' : p.1 = t := List.mem_singleton.mp h1
          have h5 := (N₁ p (List.mem_append_left _ hp)).2.2
          rw [h1', hot] at h5
          cases h5
      · exact N' _ (List.mem_cons_of_mem _ hp)
    cases f with
    | ret v => exact .ret p
    | brk => exact .brk p
    | next => exact .next (fin p)
    | cont => exact .cont (fin p)
  · rintro h' tk m' news' F' N' _ hJ
    exact done m' news' h' tk hJ F' N'
end
inductive Name4 : Str → Prop
  | med : Name4 (Str.ofString "med")
  | lp : Name4 (Str.ofString "local_pref")
  | tag : Name4 (Str.ofString "tag")
  | nh : Name4 (Str.ofString "next_hop")
theorem Name4.sets {k : Str} (h : Name4 k) (r : Rt) (i : Int) : ∃ r', SetsTo r i k r' ∧ r'.org = r.org ∧ r'.two = r.two ∧ r'.com = r.com := by
  cases h
  · exact ⟨_, .med, rfl, rfl, rfl⟩
  · exact ⟨_, .lp, rfl, rfl, rfl⟩
  · exact ⟨_, .tag, rfl, rfl, rfl⟩
  · exact ⟨_, .nh, rfl, rfl, rfl⟩
def names4 (t1 t2 t3 t4 : Tok) : List Value := [.str (Str.ofString "med") t1, .str (Str.ofString "local_pref") t2, .str (Str.ofString "tag") t3, .str (Str.ofString "next_hop") t4]
theorem names4_get {t1 t2 t3 t4 : Tok} {i : Nat} {v : Value} (h : (names4 t1 t2 t3 t4)[i]? = some v) : ∃ k t, v = .str k t ∧ Name4 k := by
  have hm := List.mem_of_getElem? h
  simp only [names4, List.mem_cons, List.mem_nil_iff, or_false] at hm
  rcases hm with rfl | rfl | rfl | rfl
  · exact ⟨_, _, rfl, .med⟩
  · exact ⟨_, _, rfl, .lp⟩
  · exact ⟨_, _, rfl, .tag⟩
  · exact ⟨_, _, rfl, .nh⟩
theorem names4_lt {t1 t2 t3 t4 : Tok} {i : Nat} {v : Value} (h : (names4 t1 t2 t3 t4)[i]? = some v) : i < 4 := (List.getElem?_eq_some_iff.mp h).1
theorem reads_ints {h : Heap} : ∀ {vs : List Value} {ns : List Int}, IntsAre vs ns → ReadsAll h vs (ns.map PyData.int) []
  | _, _, .nil => .nil
  | _, _, .cons i t r => ReadsAll.cons (as := []) (bs := []) (.int i t) (reads_ints r)
theorem canLay_ints : ∀ ns : List Int, SeqAt.shaped (.tuple (ns.map PyData.int)) = true := fun ns => by
  simp [SeqAt.shaped, PyData.canLay0, PyData.canLayAll0, PyData.depth, PyData.depthAll, ke_canLayAll0, ke_depthAll]
theorem ne_tup_ints {prog : Program} {w : World} {A : Around} {E : Value → Shared → Prop} {s : Shared} {h₀ : Heap} {L a b : Addr} {news : Led} {vs us : List Value} {ns ms : List Int} {Q : Value → Shared → Prop}
    (N : News h₀ L s.heap news) (ha : (a, tupO vs) ∈ news) (hb : (b, tupO us) ∈ news) (hi : IntsAre vs ns) (hi' : IntsAre us ms) (hu : A.units + 64 < cLine)
    (h : Q (.bool (!decide (ns = ms))) s) : wpAny (model prog w) A (compareOp .NotEq (.ref a) (.ref b)) Q E s := by
  refine ne_dataH (Reads.tuple (N _ ha).1 rfl rfl (reads_ints hi)) (Reads.tuple (N _ hb).1 rfl rfl (reads_ints hi')) (canLay_ints ns) (canLay_ints ms) hu ?_
  have e : PyData.eqv (.tuple (ns.map PyData.int)) (.tuple (ms.map PyData.int)) = decide (ns = ms) := by
    simp only [PyData.eqv, ked_eqvAll]
  rw [e]
  exact h

def RoJ (w : World) (b l : Addr) (n : Nat) (D : Addr) (sp : Int) (R N₀ : Led) (rb : Rt) (m₀ : Str → Option Value) (i : Nat) (m : Str → Option Value) (news : Led) : Prop :=
  ∃ nv vv oD kvs x sp' t', m = (fun y => if y = Str.ofString "name" then nv else if y = Str.ofString "value" then vv else m₀ y) ∧ news = (b, boxO l n sp' t') :: (D, oD) :: R ∧ sp ≤ sp' ∧ sp' ≤ sp + (i : Int) ∧
    oD.IsDictOf (PySem.strKind Challenge.rw_sj0179_01.row.prog w) kvs ∧ AttK N₀ kvs x ∧ x.org = rb.org ∧ x.two = rb.two ∧ x.com = []
theorem kwroute44 : True := by
  k_with_none
  k_with "m call builtin:len" => (k_here; (with_reducible show wpAny _ _ (call (Value.builtin "len") [Value.ref _]) _ _ _); k_dflt (refine' len_led ?k1_z ?k2_z ?k3_z ?k4_z ?_; (case k1_z => k_asm); (case k2_z => k_mem); (case k3_z => with_reducible assumption); (case k4_z => omega)))
  k_with "m ite" => (k_closed; with_reducible (first | refine ite_tt ?_ | refine ite_ff ?_ | refine PySem.W.ite_neg (by decide) ?_ | refine PySem.W.ite_pos (by decide) ?_))
  k_with "m subscriptTail" => (k_here; (with_reducible show wpAny _ _ (subscriptTail _ _ (Value.ref _) (Value.int _ _)) _ _ _); k_dflt (first | (refine' sub_list ?N_z ?m_z ?a_z ?b_z ?x_z ?s_z ?_; (case N_z => k_asm); (case m_z => k_mem); (case a_z => decide); (case b_z => decide); (case x_z => rfl); (case s_z => with_unfolding_all rfl)) | (refine' sub_tup ?N_z ?m_z ?a_z ?b_z ?j_z ?x_z ?s_z ?_; (case N_z => k_asm); (case m_z => k_mem); (case a_z => decide); (case b_z => decide); (case j_z => rfl); (case x_z => rfl); (case s_z => with_unfolding_all rfl))))
  k_with "m subscriptTail Name Call ref int" => (k_here; (with_reducible show wpAny _ _ (subscriptTail _ _ (Value.ref _) (Value.int _ _)) _ _ _); k_dflt (first | (refine' sub_list_any ?N_z ?m_z ?a_z ?b_z ?z_z ?s_z ?_; (case N_z => k_asm); (case m_z => k_mem); (case a_z => omega); (case b_z => first | (simp only [List.length_cons, List.length_nil]; omega) | (simp only [List.length_append, List.length_cons, List.length_nil]; omega) | (simp only [List.length_append]; omega)); (case z_z => first | exact Nat.le_of_ble_eq_true rfl | (simp only [List.length_append, List.length_cons, List.length_nil]; omega) | (simp only [List.length_append]; omega)); (case s_z => with_unfolding_all rfl)) | (refine' sub_tup_any ?N_z ?m_z ?a_z ?b_z ?z_z ?s_z ?_; (case N_z => k_asm); (case m_z => k_mem); (case a_z => omega); (case b_z => first | (simp only [List.length_cons, List.length_nil]; omega) | (simp only [List.length_append, List.length_cons, List.length_nil]; omega) | (simp only [List.length_append]; omega)); (case z_z => first | exact Nat.le_of_ble_eq_true rfl | (simp only [List.length_append, List.length_cons, List.length_nil]; omega) | (simp only [List.length_append]; omega)); (case s_z => with_unfolding_all rfl))); intro _ _)
  k_with "m subscriptTail Tuple" => (k_here; (with_reducible show wpAny _ _ (subscriptTail _ _ (Value.ref _) (Value.int _ _)) _ _ _); k_dflt (first | (refine' sub_list_any ?N_z ?m_z ?a_z ?b_z ?z_z ?s_z ?_; (case N_z => k_asm); (case m_z => k_mem); (case a_z => omega); (case b_z => first | (simp only [List.length_cons, List.length_nil]; omega) | (simp only [List.length_append, List.length_cons, List.length_nil]; omega) | (simp only [List.length_append]; omega)); (case z_z => first | exact Nat.le_of_ble_eq_true rfl | (simp only [List.length_append, List.length_cons, List.length_nil]; omega) | (simp only [List.length_append]; omega)); (case s_z => with_unfolding_all rfl)) | (refine' sub_tup_any ?N_z ?m_z ?a_z ?b_z ?z_z ?s_z ?_; (case N_z => k_asm); (case m_z => k_mem); (case a_z => omega); (case b_z => first | (simp only [List.length_cons, List.length_nil]; omega) | (simp only [List.length_append, List.length_cons, List.length_nil]; omega) | (simp only [List.length_append]; omega)); (case z_z => first | exact Nat.le_of_ble_eq_true rfl | (simp only [List.length_append, List.length_cons, List.length_nil]; omega) | (simp only [List.length_append]; omega)); (case s_z => with_unfolding_all rfl))); intro _ _)
  k_with "m subscriptTail List" => (k_here; (with_reducible show wpAny _ _ (subscriptTail _ _ (Value.ref _) (Value.int _ _)) _ _ _); k_dflt (first | (refine' sub_list_any ?N_z ?m_z ?a_z ?b_z ?z_z ?s_z ?_; (case N_z => k_asm); (case m_z => k_mem); (case a_z => omega); (case b_z => first | (simp only [List.length_cons, List.length_nil]; omega) | (simp only [List.length_append, List.length_cons, List.length_nil]; omega) | (simp only [List.length_append]; omega)); (case z_z => first | exact Nat.le_of_ble_eq_true rfl | (simp only [List.length_append, List.length_cons, List.length_nil]; omega) | (simp only [List.length_append]; omega)); (case s_z => with_unfolding_all rfl)) | (refine' sub_tup_any ?N_z ?m_z ?a_z ?b_z ?z_z ?s_z ?_; (case N_z => k_asm); (case m_z => k_mem); (case a_z => omega); (case b_z => first | (simp only [List.length_cons, List.length_nil]; omega) | (simp only [List.length_append, List.length_cons, List.length_nil]; omega) | (simp only [List.length_append]; omega)); (case z_z => first | exact Nat.le_of_ble_eq_true rfl | (simp only [List.length_append, List.length_cons, List.length_nil]; omega) | (simp only [List.length_append]; omega)); (case s_z => with_unfolding_all rfl))); intro _ _)
  k_with "m execs cons" => (k_here; (with_reducible show wpAny _ _ _ _ _ (Shared.mk _ _ _ (_ + 1) _)); refine gen_toks ?_; intro (tk : Nat))
  trivial
theorem RoJ.start {w : World} {b l : Addr} {n : Nat} {D : Addr} {sp : Int} {R N₀ : Led} {rb : Rt} {m₀ : Str → Option Value} {oD : Obj} {kvs : List (Str × Value)} {t : Tok} (hd : oD.IsDictOf (PySem.strKind Challenge.rw_sj0179_01.row.prog w) kvs) (hk : AttK N₀ kvs rb) (hc : rb.com = []) :
    RoJ w b l n D sp R N₀ rb m₀ 0 m₀ ((b, boxO l n sp t) :: (D, oD) :: R) :=
  ⟨m₀ (Str.ofString "name"), m₀ (Str.ofString "value"), oD, kvs, rb, sp, t, by
    funext y
    (repeat' split) <;> first | rfl | (rename_i h; rw [h]), rfl, by omega, by omega, hd, hk, rfl, rfl, hc⟩
theorem RoJ.close {w : World} {b l : Addr} {n : Nat} {D : Addr} {sp sp' : Int} {R N₀ full : Led} {rb x : Rt} {m₀ m' : Str → Option Value} {i : Nat} {h₀ h' : Heap} {L I : Addr} {io oD : Obj} {s₁ : Shared} {tk : Nat} {kvs : List (Str × Value)} {t : Tok}
    (F : Fr h₀ L h' m') (N : News h₀ L h' full) (hsub : ∀ p ∈ (I, io) :: (b, boxO l n sp' t) :: (D, oD) :: R, p ∈ full) (em : ∀ y, y ≠ Str.ofString "name" → y ≠ Str.ofString "value" → m' y = m₀ y)
    (hb : b ≠ I) (hD : D ≠ I) (hR : ∀ p ∈ R, p.1 ≠ I) (h1 : sp ≤ sp') (h2 : sp' ≤ sp + ((i + 1 : Nat) : Int)) (hd : oD.IsDictOf (PySem.strKind Challenge.rw_sj0179_01.row.prog w) kvs) (hk : AttK N₀ kvs x) (e1 : x.org = rb.org) (e2 : x.two = rb.two) (e3 : x.com = []) :
    UnrEnd h₀ L s₁ I io (RoJ w b l n D sp R N₀ rb m₀ (i + 1)) { s₁ with heap := h', toks := tk } := by
  have em' : m' = (fun y => if y = Str.ofString "name" then m' (Str.ofString "name") else if y = Str.ofString "value" then m' (Str.ofString "value") else m₀ y) := by
    funext y
    (repeat' split) <;> first | (rename_i h; rw [h]; done) | exact em y (by assumption) (by assumption)
  exact UnrEnd.intro F N _ hsub (List.forall_mem_cons.mpr ⟨hb, List.forall_mem_cons.mpr ⟨hD, hR⟩⟩) ⟨_, _, oD, kvs, x, sp', t, em', rfl, h1, h2, hd, hk, e1, e2, e3⟩
theorem set4 {w : World} {N₀ : Led} {rb x : Rt} {kvs : List (Str × Value)} {o : Obj} {k : Str} {v : Int} {tv : Tok} (hd : o.IsDictOf (PySem.strKind Challenge.rw_sj0179_01.row.prog w) (stored kvs k (.int v tv))) (hk : AttK N₀ kvs x) (h4 : Name4 k) (e1 : x.org = rb.org) (e2 : x.two = rb.two) (e3 : x.com = []) :
    ∃ x', AttK N₀ (stored kvs k (.int v tv)) x' ∧ x'.org = rb.org ∧ x'.two = rb.two ∧ x'.com = [] := by
  obtain ⟨r', hs, f1, f2, f3⟩ := h4.sets x v
  exact ⟨r', att_set hd hk hs fun j => valueAt_stored, f1.trans e1, f2.trans e2, f3.trans e3⟩
def bitP (b x : Int) : Bool := (b.fdiv (2 ^ (x - 1).toNat)).fmod 2 == 1
theorem ints4 {t1 t2 t3 t4 : Tok} : IntsAre [.int 1 t1, .int 2 t2, .int 3 t3, .int 4 t4] four := .cons 1 _ (.cons 2 _ (.cons 3 _ (.cons 4 _ .nil)))
theorem ints_f4 {b : Int} {t1 t2 t3 t4 : Tok} : IntsAre ([.int 1 t1, .int 2 t2, .int 3 t3, .int 4 t4].filter (intP (bitP b))) (four.filter (bitP b)) := ints_filter (fun _ _ => rfl) ints4
theorem four_lt {j : Int} (h : j ∈ four) : 1 ≤ j ∧ j ≤ 4 := by
  simp only [four, List.mem_cons, List.mem_nil_iff, or_false] at h
  omega
section
theorem kwroute45 : True := by
  k_with_none
  k_with "m call builtin:len" => (k_here; (with_reducible show wpAny _ _ (call (Value.builtin "len") [Value.ref _]) _ _ _); k_dflt (refine' len_led ?k1_z ?k2_z ?k3_z ?k4_z ?_; (case k1_z => k_asm); (case k2_z => k_mem); (case k3_z => with_reducible assumption); (case k4_z => omega)))
  k_with "m ite" => (k_closed; with_reducible (first | refine ite_tt ?_ | refine ite_ff ?_ | refine PySem.W.ite_neg (by decide) ?_ | refine PySem.W.ite_pos (by decide) ?_))
  k_with "m subscriptTail" => (k_here; (with_reducible show wpAny _ _ (subscriptTail _ _ (Value.ref _) (Value.int _ _)) _ _ _); k_dflt (first | (refine' sub_list ?N_z ?m_z ?a_z ?b_z ?x_z ?s_z ?_; (case N_z => k_asm); (case m_z => k_mem); (case a_z => decide); (case b_z => decide); (case x_z => rfl); (case s_z => with_unfolding_all rfl)) | (refine' sub_tup ?N_z ?m_z ?a_z ?b_z ?j_z ?x_z ?s_z ?_; (case N_z => k_asm); (case m_z => k_mem); (case a_z => decide); (case b_z => decide); (case j_z => rfl); (case x_z => rfl); (case s_z => with_unfolding_all rfl))))
  k_with "m subscriptTail Name Call ref int" => (k_here; (with_reducible show wpAny _ _ (subscriptTail _ _ (Value.ref _) (Value.int _ _)) _ _ _); k_dflt (first | (refine' sub_list_any ?N_z ?m_z ?a_z ?b_z ?z_z ?s_z ?_; (case N_z => k_asm); (case m_z => k_mem); (case a_z => omega); (case b_z => first | (simp only [List.length_cons, List.length_nil]; omega) | (simp only [List.length_append, List.length_cons, List.length_nil]; omega) | (simp only [List.length_append]; omega)); (case z_z => first | exact Nat.le_of_ble_eq_true rfl | (simp only [List.length_append, List.length_cons, List.length_nil]; omega) | (simp only [List.length_append]; omega)); (case s_z => with_unfolding_all rfl)) | (refine' sub_tup_any ?N_z ?m_z ?a_z ?b_z ?z_z ?s_z ?_; (case N_z => k_asm); (case m_z => k_mem); (case a_z => omega); (case b_z => first | (simp only [List.length_cons, List.length_nil]; omega) | (simp only [List.length_append, List.length_cons, List.length_nil]; omega) | (simp only [List.length_append]; omega)); (case z_z => first | exact Nat.le_of_ble_eq_true rfl | (simp only [List.length_append, List.length_cons, List.length_nil]; omega) | (simp only [List.length_append]; omega)); (case s_z => with_unfolding_all rfl))); intro _ _)
  k_with "m subscriptTail Tuple" => (k_here; (with_reducible show wpAny _ _ (subscriptTail _ _ (Value.ref _) (Value.int _ _)) _ _ _); k_dflt (first | (refine' sub_list_any ?N_z ?m_z ?a_z ?b_z ?z_z ?s_z ?_; (case N_z => k_asm); (case m_z => k_mem); (case a_z => omega); (case b_z => first | (simp only [List.length_cons, List.length_nil]; omega) | (simp only [List.length_append, List.length_cons, List.length_nil]; omega) | (simp only [List.length_append]; omega)); (case z_z => first | exact Nat.le_of_ble_eq_true rfl | (simp only [List.length_append, List.length_cons, List.length_nil]; omega) | (simp only [List.length_append]; omega)); (case s_z => with_unfolding_all rfl)) | (refine' sub_tup_any ?N_z ?m_z ?a_z ?b_z ?z_z ?s_z ?_; (case N_z => k_asm); (case m_z => k_mem); (case a_z => omega); (case b_z => first | (simp only [List.length_cons, List.length_nil]; omega) | (simp only [List.length_append, List.length_cons, List.length_nil]; omega) | (simp only [List.length_append]; omega)); (case z_z => first | exact Nat.le_of_ble_eq_true rfl | (simp only [List.length_append, List.length_cons, List.length_nil]; omega) | (simp only [List.length_append]; omega)); (case s_z => with_unfolding_all rfl))); intro _ _)
  k_with "m subscriptTail List" => (k_here; (with_reducible show wpAny _ _ (subscriptTail _ _ (Value.ref _) (Value.int _ _)) _ _ _); k_dflt (first | (refine' sub_list_any ?N_z ?m_z ?a_z ?b_z ?z_z ?s_z ?_; (case N_z => k_asm); (case m_z => k_mem); (case a_z => omega); (case b_z => first | (simp only [List.length_cons, List.length_nil]; omega) | (simp only [List.length_append, List.length_cons, List.length_nil]; omega) | (simp only [List.length_append]; omega)); (case z_z => first | exact Nat.le_of_ble_eq_true rfl | (simp only [List.length_append, List.length_cons, List.length_nil]; omega) | (simp only [List.length_append]; omega)); (case s_z => with_unfolding_all rfl)) | (refine' sub_tup_any ?N_z ?m_z ?a_z ?b_z ?z_z ?s_z ?_; (case N_z => k_asm); (case m_z => k_mem); (case a_z => omega); (case b_z => first | (simp only [List.length_cons, List.length_nil]; omega) | (simp only [List.length_append, List.length_cons, List.length_nil]; omega) | (simp only [List.length_append]; omega)); (case z_z => first | exact Nat.le_of_ble_eq_true rfl | (simp only [List.length_append, List.length_cons, List.length_nil]; omega) | (simp only [List.length_append]; omega)); (case s_z => with_unfolding_all rfl))); intro _ _)
  k_with "m execs cons" => (k_here; (with_reducible show wpAny _ _ _ _ _ (Shared.mk _ _ _ (_ + 1) _)); refine gen_toks ?_; intro (tk : Nat))
  k_with "m getMethod ref" => (k_here; (with_reducible show wpAny _ _ (getMethod (Value.ref _) (Str.ofString "items") _) _ _ _); k_dflt (refine' kdl_method (knd := PySem.strKind _ _) PySem.F.slot_dict_items PySem.F.type_dict_items ?N_z ?p_z ?d_z ?_; (case N_z => k_asm); (case p_z => k_mem); (case d_z => assumption)))
  k_with "m call builtin:dict.items" => (k_here; (show wpAny _ _ (call (Value.builtin "dict.items") [Value.ref _]) _ _ _); k_dflt (refine' kdx_view (knd := PySem.strKind _ _) ?F_z ?N_z ?p_z ?d_z ?lo_z ?_; (case F_z => k_asm); (case N_z => k_asm); (case p_z => k_mem); (case d_z => assumption); (case lo_z => assumption)); intro _ _ _ _ _; (try k_sweep))
  k_with "m call type:list" => (k_here; (with_reducible show wpAny _ _ (call (Value.type "list") [Value.ref _]) _ _ _); k_dflt (refine' items_led rfl ?F_z ?N_z ?v_z ?m_z ?d_z ?z_z ?_; (case F_z => k_asm); (case N_z => k_asm); (case v_z => k_mem); (case m_z => k_mem); (case d_z => assumption); (case z_z => omega)); intro _ _ _ _ _ _ _ _ _ _ _; (try k_sweep))
  k_with "m call type:dict" => (k_here; (with_reducible show wpAny _ _ (call (Value.type "dict") [Value.ref _]) _ _ _); k_dflt (refine' dict_pairs rfl ?F_z ?N_z ?l_z ?p_z ?n_z ?lim_z ?z_z ?_; (case F_z => k_asm); (case N_z => k_asm); (case l_z => k_mem); (case p_z => exact PairsAre.mono (by assumption) (by (repeat' (first | assumption | exact List.forall_mem_nil _ | refine sub_app ?_ ?_ | refine sub_cons ?_ ?_ | k_mem | (intro _ _; k_mem))))); (case n_z => first | assumption | exact dict_nodup (by assumption)); (case lim_z => exact Top.nolimit (by assumption)); (case z_z => omega)); intro _ _ _ _ _ _ _ _ _; (try k_sweep))
  k_with "m call type:tuple" => (k_here; (with_reducible show wpAny _ _ (call (Value.type "tuple") [Value.ref _]) _ _ _); k_dflt (refine' tuple_led ?F_z ?N_z ?m_z ?z_z ?_; (case F_z => k_asm); (case N_z => k_asm); (case m_z => k_mem); (case z_z => first | omega | exact Nat.le_of_ble_eq_true rfl | exact Nat.le_trans (List.length_filter_le _ _) (Nat.le_of_ble_eq_true rfl))); intro _ _ _ _ _; (try k_sweep))
  k_with "m compareOp NotEq ref ref" => (k_here; (with_reducible show wpAny _ _ (compareOp CmpOp.NotEq (Value.ref _) (Value.ref _)) _ _ _); k_dflt (refine' ne_tup_ints ?N_z ?a_z ?b_z ?i_z ?j_z ?u_z ?_; (case N_z => k_asm); (case a_z => k_mem); (case b_z => k_mem); (case i_z => first | assumption | exact ints_f4 | exact .nil); (case j_z => first | exact .nil | assumption); (case u_z => (first | omega | (simp only [depth_caller, depth_deeper]; decide) | ((have hcL9 := cLine_is); (simp only [units_caller, units_deeper, Around.mark_units]); omega) | ((try simp only [depth_deeper, units_deeper, depth_in1, units_in1]); omega) | fail "room"))))
  k_with "m storeName" => (k_here; k_dflt (refine' cell_led ?F_z ?N_z ?c_z ?U_z ?hne_z ?d_z ?a_z ?b_z ?_; (case a_z => rfl); (case b_z => rfl); (case F_z => k_asm); (case N_z => k_asm); (case c_z => rfl); (case U_z => (repeat (first | exact Pull.here | apply Pull.there | apply Pull.app))); (case d_z => k_asm); (case hne_z => (repeat' (first | assumption | refine List.forall_mem_cons.mpr ⟨?_, ?_⟩ | refine List.forall_mem_append.mpr ⟨?_, ?_⟩ | exact List.forall_mem_nil _ | exact ne_of_all (by assumption) (by k_mem) | exact ne_of_low1 (by assumption) (by k_mem) | exact ne_low_add (by assumption) (by omega) | (refine neN ?_; (try dsimp only); omega))))); intro _ _ _ _ _; (try k_sweep))
  k_with "m setItem ref str" => (k_here; (with_reducible show wpAny _ _ (setItem (Value.ref _) (Value.str _ _) _) _ _ _); k_dflt (refine' set_led ?F_z ?N_z ?U_z ?hne_z ?hd_z ?hz_z ?_; (case F_z => k_asm); (case N_z => k_asm); (case U_z => (repeat (first | exact Pull.here | apply Pull.there | apply Pull.app))); (case hd_z => assumption); (case hne_z => (repeat' (first | assumption | refine List.forall_mem_cons.mpr ⟨?_, ?_⟩ | refine List.forall_mem_append.mpr ⟨?_, ?_⟩ | exact List.forall_mem_nil _ | exact ne_of_abv1 (by assumption) | exact ne_of_abv2 (by assumption) (by k_mem) | exact ne_of_all (by assumption) (by k_mem) | exact ne_of_low1 (by assumption) (by k_mem) | exact ne_of_low (by assumption) (by (repeat' (first | assumption | exact List.forall_mem_nil _ | refine sub_app ?_ ?_ | refine sub_cons ?_ ?_ | k_mem | (intro _ _; k_mem))))))); (case hz_z => omega)); intro _ _ _ _ _; (try k_sweep))
  k_with "m call ref" => ((k_here; (with_reducible show wpAny _ _ (call (Value.ref 130) _) _ _ _); first | (k_dflt (refine' ct_use (draw_ct ?hI_z ?hlen_z ?hl_z ?hb_z ?hm_z ?hm2_z ?h0_z ?h1_z) ?B_z ?F_z ?X_z (newsPull ?N_z ?U_z) ?T_z ?hk_z ?hd_z ?hu_z ?_; (case N_z => k_asm); (case U_z => (repeat (first | exact Pull.here | apply Pull.there | apply Pull.app))); (case B_z => k_asm); (case F_z => k_asm); (case X_z => k_asm); (case T_z => k_asm); (case hk_z => first | exact rfl | assumption); (case hd_z => (first | omega | (simp only [depth_caller, depth_deeper]; decide) | ((have hcL9 := cLine_is); (simp only [units_caller, units_deeper, Around.mark_units]); omega) | ((try simp only [depth_deeper, units_deeper, depth_in1, units_in1]); omega) | fail "room")); (case hu_z => (first | omega | (simp only [depth_caller, depth_deeper]; decide) | ((have hcL9 := cLine_is); (simp only [units_caller, units_deeper, Around.mark_units]); omega) | ((try simp only [depth_deeper, units_deeper, depth_in1, units_in1]); omega) | fail "room")); (case hl_z => k_mem); (case hI_z => assumption); (case hlen_z => assumption); (case hb_z => (repeat' (first | assumption | refine List.forall_mem_cons.mpr ⟨?_, ?_⟩ | refine List.forall_mem_append.mpr ⟨?_, ?_⟩ | exact List.forall_mem_nil _ | exact ne_of_abv1 (by assumption) | exact ne_of_abv2 (by assumption) (by k_mem) | exact ne_of_all (by assumption) (by k_mem) | exact ne_of_low1 (by assumption) (by k_mem) | exact ne_of_low (by assumption) (by (repeat' (first | assumption | exact List.forall_mem_nil _ | refine sub_app ?_ ?_ | refine sub_cons ?_ ?_ | k_mem | (intro _ _; k_mem))))))); (case hm_z => decide); (case hm2_z => decide); (case h0_z => omega); (case h1_z => omega)); intro _ _ _ _ _ _ P9; obtain ⟨_, _, _, e9, _, _, en9⟩ := P9; subst e9; subst en9; (try dsimp only)) | refine stop_of ?_))
  k_with "m pyIter ref" => refine stop_of ?_
  k_with "m UnrEnd" => refine stop_of ?_
  k_with "m exec For Name Name cons nil" => (k_here; (rename Fr _ _ _ _ => lF'); (with_unfolding_all refine' For_invVF lF' ?k1_z ?k2_z ?_; (case k1_z => exact rfl); (case k2_z => exact rfl); k_whole))
  k_with "m eval ListComp" => refine stop_of ?_
  k_with "m Exists" => refine stop_of ?_
  trivial
theorem route_ct {w : World} {b l base : Addr} {n n' : Nat} {sp : Int} {t : Tok} {vs : List Value} {ns : List Int} {news N₀ : Led} {rb : Rt}
    (hI : IntsAre vs ns) (hlen : ns.length ≤ 48) (hl : (l, PySem.W.listOf vs.toArray n') ∈ news) (hb : ∀ q ∈ news, q.1 ≠ b) (h0 : 0 ≤ sp) (h1 : sp ≤ 900)
    (ha : AttIs w N₀ base rb) (hsub : ∀ p ∈ N₀, p ∈ news) (hcom : rb.com = []) :
    Ct w 156 [.ref b, .ref base] 30 500 ((b, boxO l n sp t) :: news) (BoxPost b l n sp 5 news fun tl r => ∃ D x, r = .ref D ∧ AttIs w (tl ++ N₀) D x ∧ x.Ok ∧ x.org = rb.org ∧ x.two = rb.two) := by
  obtain ⟨hm, hd, lo, hk⟩ := ha
  have hm' := hsub _ hm
  have hz7 := att_len hd hk
  unfold Ct
  k_fill
  intro mean mg mb dp un gd cn cs a ccd cl outer A₀ base h₀ L m s Q E B F X N T hk0 hd0 hu hret
  refine wpAny_call ?_
  k_dflt (refine' PySem.W.code_defC ?k1 ?k2 ?k3 ?k4 ?k5 ?kA ?kF ?kK ?k6 ?k7 ?k8 ?k9 ?kB ?kD ?_ ?c2 ?c3 ?c4; (case kA => exact rfl); (case kF => exact rfl); (case kK => first | exact rfl | assumption); (case k1 => k_asm); (case k2 => k_asm); (case k3 => k_asm); (case k4 => k_asm); (case k5 => k_asm); (case k6 => k_is); (case k7 => k_is); (case k8 => (first | omega | (simp only [depth_caller, depth_deeper]; decide) | ((have hcL9 := cLine_is); (simp only [units_caller, units_deeper, Around.mark_units]); omega) | ((try simp only [depth_deeper, units_deeper, depth_in1, units_in1]); omega) | fail "room")); (case k9 => exact BindsTo.of_eq rfl); (case kB => exact rfl); (case kD => decide +kernel); (case c2 => exact rfl); (case c3 => exact rfl); (case c4 => exact rfl); k_whole; intro g' L' h' tk' cells' FG' F' N' Y' B' X' T' l1; k_cells Y'; (try simp only [List.cons_append, List.nil_append] at N'); (try dsimp only); (try k_fold))
  k_steps
  unfold Stop
  rename Fr _ _ _ _ => F1
  rename News _ _ _ _ => N1
  rename_i o8 d8 D8 h8 l8 B8 vs8 tups8 c8 h7 tk7 l7 l6 p6 D9 oD9 h9 tk9 l9 lo9 hd9 h10
  have N2 : News _ _ _ ((b, boxO l n _ _) :: (D9, oD9) :: (L' + 1, o8) :: news) := newsSub N1 (List.forall_mem_cons.mpr ⟨by k_mem, List.forall_mem_cons.mpr ⟨by k_mem, List.forall_mem_cons.mpr ⟨by k_mem, by (repeat' (first | assumption | exact List.forall_mem_nil _ | refine sub_app ?_ ?_ | refine sub_cons ?_ ?_ | k_mem | (intro _ _; k_mem)))⟩⟩⟩)
  have hDb : D9 ≠ b := Nat.ne_of_gt (l9 (b, boxO l n sp t) (by k_mem))
  have hCb : L' + 1 ≠ b := Nat.ne_of_gt (Nat.lt_succ_of_lt (l1 (b, boxO l n sp t) List.mem_cons_self))
  have hR9 : ∀ q ∈ (L' + 1, o8) :: news, q.1 ≠ b := List.forall_mem_cons.mpr ⟨hCb, hb⟩
  have hDR : ∀ q ∈ (L' + 1, o8) :: news, q.1 ≠ D9 := fun q hq => Nat.ne_of_lt (l9 q (by rcases List.mem_cons.mp hq with rfl | hq <;> k_mem))
  have hDL : ∀ q ∈ news, @LT.lt Nat _ q.1 D9 := fun q hq => l9 q (by k_mem)
  have hbD : @LT.lt Nat _ b D9 := l9 (b, boxO l n sp t) (by k_mem)
  rename Frag.In _ _ => X1
  have hg := X1 123 _ (by k_is)
  refine iter_gtup (vs := names4 385 386 387 388) (RoJ w b l n _ _ _ N₀ rb _) rfl F1 N2 ⟨_, hg, rfl, _, rfl⟩ (RoJ.start (by assumption) hk hcom) ?turn ?done
  case turn =>
    clear F1 N1 N2
    rintro I io i v m₁ news₁ h tk hlI hiv ⟨nv, vv, oD, kvs, x, sp', t', rfl, rfl, lo2, hi2, hd2, hk2, e1, e2, e3⟩ hoff F1 N1
    obtain ⟨k, tv, rfl, hk4⟩ := names4_get hiv
    have hz8 := att_len hd2 hk2
    have hrb : ∀ q ∈ (I, io) :: (D9, oD) :: (L' + 1, o8) :: news, q.1 ≠ b := List.forall_mem_cons.mpr ⟨fun e => hoff _ List.mem_cons_self e.symm, List.forall_mem_cons.mpr ⟨hDb, hR9⟩⟩
    have hrD : ∀ q ∈ (I, io) :: (L' + 1, o8) :: news, q.1 ≠ D9 := List.forall_mem_cons.mpr ⟨fun e => hoff (D9, oD) (by k_mem) e.symm, hDR⟩
    have hi4 : i < 4 := names4_lt hiv
    have hbD2 : b ≠ D9 := Nat.ne_of_lt hbD
    k_steps
    all_goals unfold Stop
    all_goals rename Fr _ _ _ _ => F5
    all_goals rename News _ _ _ _ => N5
    all_goals first
      | (rename Obj.IsDictOf _ _ (stored _ _ _) => hd5
         obtain ⟨x', k1, k2, k3, k4⟩ := set4 hd5 hk2 hk4 e1 e2 e3
         exact RoJ.close F5 N5 (by (repeat' (first | assumption | exact List.forall_mem_nil _ | refine sub_app ?_ ?_ | refine sub_cons ?_ ?_ | k_mem | (intro _ _; k_mem)))) (fun y h1 h2 => by simp [h1, h2]) (hoff _ List.mem_cons_self) (hoff (D9, oD) (by k_mem)) (fun q hq => hoff q (List.mem_cons_of_mem _ (List.mem_cons_of_mem _ hq))) (by omega) (by omega) hd5 k1 k2 k3 k4)
      | exact RoJ.close F5 N5 (by (repeat' (first | assumption | exact List.forall_mem_nil _ | refine sub_app ?_ ?_ | refine sub_cons ?_ ?_ | k_mem | (intro _ _; k_mem)))) (fun y h1 h2 => by simp [h1, h2]) (hoff _ List.mem_cons_self) (hoff (D9, oD) (by k_mem)) (fun q hq => hoff q (List.mem_cons_of_mem _ (List.mem_cons_of_mem _ hq))) (by omega) (by omega) hd2 hk2 e1 e2 e3
  case done =>
    clear F1 N1 N2
    rintro m₁ news₁ h tk ⟨nv, vv, oD, kvs, x, sp', t', rfl, rfl, lo2, hi2, hd2, hk2, e1, e2, e3⟩ F1 N1
    have hz8 := att_len hd2 hk2
    have hi3 : sp' ≤ sp + 4 := hi2
    have hbc : b ≠ L' + 1 := fun e => hCb e.symm
    have hcr : ∀ q ∈ (D9, oD) :: news, q.1 ≠ L' + 1 := List.forall_mem_cons.mpr ⟨fun e => hDR _ List.mem_cons_self e.symm, fun q hq => Nat.ne_of_lt (Nat.lt_succ_of_lt (l1 q (List.mem_cons_of_mem _ hq)))⟩
    have hrb : ∀ q ∈ (D9, oD) :: (L' + 1, o8) :: news, q.1 ≠ b := List.forall_mem_cons.mpr ⟨hDb, hR9⟩
    k_steps
    unfold Stop
    rename Fr _ _ _ _ => F3
    refine listcomp_self F3 rfl (by with_unfolding_all rfl) (by decide) (by with_unfolding_all rfl) (by decide) (by with_unfolding_all rfl) (by intro _; with_unfolding_all rfl) ?_
    k_steps
    unfold Stop
    rename Int => bz
    refine ⟨_, _, rfl, .mk (vs := [.int 1 _, .int 2 _, .int 3 _, .int 4 _]) (n := 0) (p := intP (bitP bz)) (by k_asm) (by k_asm) (.inr (by k_mem)) (Nat.le_of_ble_eq_true rfl) ?tests ?item ?cont⟩
    case tests =>
      intro C v s₂ m₂ E' hv hn hx hk
      obtain ⟨j, tj, rfl, hj⟩ := ints_mem ints4 hv
      obtain ⟨hj1, hj4⟩ := four_lt hj
      clear hv hj
      k_steps
      (exact ⟨_, _, rfl, fun _ _ e => e⟩)
    case item =>
      intro C v s₂ m₂ E' hv hp hn hx hk
      k_steps
      (exact ⟨_, _, rfl, fun _ _ e => e⟩)
    case cont =>
      intro D n3 h2 tk2 F2 N2 ne2
      have hDD : D ≠ D9 := fun e => ne2 (D9, oD) (by k_mem) e.symm
      have hbD2 : b ≠ D9 := Nat.ne_of_lt hbD
      have hcD : L' + 1 ≠ D9 := hDR _ List.mem_cons_self
      have hnD : ∀ q ∈ news, q.1 ≠ D9 := fun q hq => hDR q (List.mem_cons_of_mem _ hq)
      k_steps
      all_goals rename Fr _ _ _ _ => F5
      all_goals rename News _ _ _ _ => N5
      · have N9 : News _ _ _ ((b, boxO l n _ _) :: ([(D9, oD)] ++ news)) := newsSub N5 (List.forall_mem_cons.mpr ⟨by k_mem, by (repeat' (first | assumption | exact List.forall_mem_nil _ | refine sub_app ?_ ?_ | refine sub_cons ?_ ?_ | k_mem | (intro _ _; k_mem)))⟩)
        refine box_end hret F5 N9 Pull.here (Spl.cons .nil) (Abv.cons hbD hDL .nil) (by omega) (by omega) ⟨D9, x, rfl, .mk (by k_mem) hd2 lo9 (hk2.mono sub_right), ?_, e1, e2⟩
        unfold Rt.Ok
        rw [e3]
        rfl
      · rename Obj.IsDictOf _ _ (stored _ _ _) => hd5
        rename decide (_ = ([] : List Int)) = false => hne
        have N9 : News _ _ _ ((b, boxO l n _ _) :: ([(D9, _), (_, tupO (List.filter (intP (bitP bz)) _))] ++ news)) := newsSub N5 (List.forall_mem_cons.mpr ⟨by k_mem, List.forall_mem_cons.mpr ⟨by k_mem, List.forall_mem_cons.mpr ⟨by k_mem, by (repeat' (first | assumption | exact List.forall_mem_nil _ | refine sub_app ?_ ?_ | refine sub_cons ?_ ?_ | k_mem | (intro _ _; k_mem)))⟩⟩⟩)
        refine box_end hret F5 N9 Pull.here (Spl.cons (Spl.cons .nil)) (by (repeat' (first | exact Abv.nil | refine Abv.cons ?_ ?_ ?_ | (refine Abv.app (by assumption) ?_ ?_) | assumption | exact lt_of_all (by assumption) (by k_mem) | (exact all_sub (by assumption) (fun _ _ => by k_mem)) | (intro p9 hp9; k_mem)))) (by omega) (by omega) ⟨D9, { x with com := four.filter (bitP bz) }, rfl, .mk (by k_mem) hd5 lo9 (att_com hd5 (hk2.mono sub_right) (fun j hj => by rw [valueAt_stored, if_neg hj]) ?_), filter_ok _, e1, e2⟩
        rw [valueAt_stored, if_pos rfl]
        exact .some (by k_mem) ints_f4 (of_decide_eq_false hne)
end

def keyN : Nat → Str
  | 0 => Str.ofString "med"
  | 1 => Str.ofString "local_pref"
  | 2 => Str.ofString "tag"
  | _ => Str.ofString "next_hop"
def getF : Nat → Rt → Option Int
  | 0, r => r.med
  | 1, r => r.lp
  | 2, r => r.tag
  | _, r => r.nh
def putF : Nat → Rt → Option Int → Rt
  | 0, r, v => { r with med := v }
  | 1, r, v => { r with lp := v }
  | 2, r, v => { r with tag := v }
  | _, r, v => { r with nh := v }
theorem kwdue046 : True := by
  k_with_none
  k_with "m call builtin:len" => (k_here; (with_reducible show wpAny _ _ (call (Value.builtin "len") [Value.ref _]) _ _ _); k_dflt (refine' len_led ?k1_z ?k2_z ?k3_z ?k4_z ?_; (case k1_z => k_asm); (case k2_z => k_mem); (case k3_z => with_reducible assumption); (case k4_z => omega)))
  k_with "m ite" => (k_closed; with_reducible (first | refine ite_tt ?_ | refine ite_ff ?_ | refine PySem.W.ite_neg (by decide) ?_ | refine PySem.W.ite_pos (by decide) ?_))
  k_with "m subscriptTail" => (k_here; (with_reducible show wpAny _ _ (subscriptTail _ _ (Value.ref _) (Value.int _ _)) _ _ _); k_dflt (first | (refine' sub_list ?N_z ?m_z ?a_z ?b_z ?x_z ?s_z ?_; (case N_z => k_asm); (case m_z => k_mem); (case a_z => decide); (case b_z => decide); (case x_z => rfl); (case s_z => with_unfolding_all rfl)) | (refine' sub_tup ?N_z ?m_z ?a_z ?b_z ?j_z ?x_z ?s_z ?_; (case N_z => k_asm); (case m_z => k_mem); (case a_z => decide); (case b_z => decide); (case j_z => rfl); (case x_z => rfl); (case s_z => with_unfolding_all rfl))))
  k_with "m subscriptTail Name Call ref int" => (k_here; (with_reducible show wpAny _ _ (subscriptTail _ _ (Value.ref _) (Value.int _ _)) _ _ _); k_dflt (first | (refine' sub_list_any ?N_z ?m_z ?a_z ?b_z ?z_z ?s_z ?_; (case N_z => k_asm); (case m_z => k_mem); (case a_z => omega); (case b_z => first | (simp only [List.length_cons, List.length_nil]; omega) | (simp only [List.length_append, List.length_cons, List.length_nil]; omega) | (simp only [List.length_append]; omega)); (case z_z => first | exact Nat.le_of_ble_eq_true rfl | (simp only [List.length_append, List.length_cons, List.length_nil]; omega) | (simp only [List.length_append]; omega)); (case s_z => with_unfolding_all rfl)) | (refine' sub_tup_any ?N_z ?m_z ?a_z ?b_z ?z_z ?s_z ?_; (case N_z => k_asm); (case m_z => k_mem); (case a_z => omega); (case b_z => first | (simp only [List.length_cons, List.length_nil]; omega) | (simp only [List.length_append, List.length_cons, List.length_nil]; omega) | (simp only [List.length_append]; omega)); (case z_z => first | exact Nat.le_of_ble_eq_true rfl | (simp only [List.length_append, List.length_cons, List.length_nil]; omega) | (simp only [List.length_append]; omega)); (case s_z => with_unfolding_all rfl))); intro _ _)
  k_with "m subscriptTail Tuple" => (k_here; (with_reducible show wpAny _ _ (subscriptTail _ _ (Value.ref _) (Value.int _ _)) _ _ _); k_dflt (first | (refine' sub_list_any ?N_z ?m_z ?a_z ?b_z ?z_z ?s_z ?_; (case N_z => k_asm); (case m_z => k_mem); (case a_z => omega); (case b_z => first | (simp only [List.length_cons, List.length_nil]; omega) | (simp only [List.length_append, List.length_cons, List.length_nil]; omega) | (simp only [List.length_append]; omega)); (case z_z => first | exact Nat.le_of_ble_eq_true rfl | (simp only [List.length_append, List.length_cons, List.length_nil]; omega) | (simp only [List.length_append]; omega)); (case s_z => with_unfolding_all rfl)) | (refine' sub_tup_any ?N_z ?m_z ?a_z ?b_z ?z_z ?s_z ?_; (case N_z => k_asm); (case m_z => k_mem); (case a_z => omega); (case b_z => first | (simp only [List.length_cons, List.length_nil]; omega) | (simp only [List.length_append, List.length_cons, List.length_nil]; omega) | (simp only [List.length_append]; omega)); (case z_z => first | exact Nat.le_of_ble_eq_true rfl | (simp only [List.length_append, List.length_cons, List.length_nil]; omega) | (simp only [List.length_append]; omega)); (case s_z => with_unfolding_all rfl))); intro _ _)
  k_with "m subscriptTail List" => (k_here; (with_reducible show wpAny _ _ (subscriptTail _ _ (Value.ref _) (Value.int _ _)) _ _ _); k_dflt (first | (refine' sub_list_any ?N_z ?m_z ?a_z ?b_z ?z_z ?s_z ?_; (case N_z => k_asm); (case m_z => k_mem); (case a_z => omega); (case b_z => first | (simp only [List.length_cons, List.length_nil]; omega) | (simp only [List.length_append, List.length_cons, List.length_nil]; omega) | (simp only [List.length_append]; omega)); (case z_z => first | exact Nat.le_of_ble_eq_true rfl | (simp only [List.length_append, List.length_cons, List.length_nil]; omega) | (simp only [List.length_append]; omega)); (case s_z => with_unfolding_all rfl)) | (refine' sub_tup_any ?N_z ?m_z ?a_z ?b_z ?z_z ?s_z ?_; (case N_z => k_asm); (case m_z => k_mem); (case a_z => omega); (case b_z => first | (simp only [List.length_cons, List.length_nil]; omega) | (simp only [List.length_append, List.length_cons, List.length_nil]; omega) | (simp only [List.length_append]; omega)); (case z_z => first | exact Nat.le_of_ble_eq_true rfl | (simp only [List.length_append, List.length_cons, List.length_nil]; omega) | (simp only [List.length_append]; omega)); (case s_z => with_unfolding_all rfl))); intro _ _)
  k_with "m execs cons" => (k_here; (with_reducible show wpAny _ _ _ _ _ (Shared.mk _ _ _ (_ + 1) _)); refine gen_toks ?_; intro (tk : Nat))
  trivial
theorem sets_put : ∀ (i : Nat) (r : Rt) (v : Int), SetsTo r v (keyN i) (putF i r (some v))
  | 0, _, _ => .med
  | 1, _, _ => .lp
  | 2, _, _ => .tag
  | _ + 3, _, _ => .nh
theorem names4_at {t1 t2 t3 t4 : Tok} {i : Nat} {v : Value} (h : (names4 t1 t2 t3 t4)[i]? = some v) : ∃ t, v = .str (keyN i) t := by
  have hl := names4_lt h
  match i, hl, h with
  | 0, _, h => exact ⟨_, (Option.some.inj h).symm⟩
  | 1, _, h => exact ⟨_, (Option.some.inj h).symm⟩
  | 2, _, h => exact ⟨_, (Option.some.inj h).symm⟩
  | 3, _, h => exact ⟨_, (Option.some.inj h).symm⟩
theorem att_get {N : Led} {kvs : List (Str × Value)} {r : Rt} (h : AttK N kvs r) : ∀ (i : Nat), OptI (valueAt kvs (keyN i)) (getF i r)
  | 0 => h.med
  | 1 => h.lp
  | 2 => h.tag
  | _ + 3 => h.nh
theorem att_val {N : Led} {kvs : List (Str × Value)} {r : Rt} (h : AttK N kvs r) {i : Nat} {v : Int} (e : getF i r = some v) : ∃ t, valueAt kvs (keyN i) = some (.int v t) := by
  have o := att_get h i
  rw [e] at o
  generalize valueAt kvs (keyN i) = x at o
  cases o
  exact ⟨_, rfl⟩
def dueN (b : Rt) : Nat → Rt → Rt
  | 0, x => x
  | i + 1, x => if getF i b = some 900 then dueN b i x else putF i (dueN b i x) (getF i b)
def dueC (a b f : Rt) (x : Int) : Bool := decide (x ∈ b.com) || (decide (x ∈ a.com) && decide (x ∈ f.com))
theorem due_done (a b f : Rt) : { dueN b 4 { a with com := [] } with com := four.filter (dueC a b f) } = dueR a b f := by
  have h : ∀ x : Rt, ∀ i, (dueN b i x).org = x.org ∧ (dueN b i x).two = x.two := by
    intro x i
    induction i with
    | zero => exact ⟨rfl, rfl⟩
    | succ i ih =>
      simp only [dueN]
      split
      · exact ih
      · match i, ih with
        | 0, ih => exact ih
        | 1, ih => exact ih
        | 2, ih => exact ih
        | _ + 3, ih => exact ih
  obtain ⟨h1, h2⟩ := h { a with com := [] } 4
  refine rt_ext h1 h2 ?_ ?_ ?_ ?_ rfl
  · simp only [dueN, getF, dueR]
    (repeat' split) <;> simp_all [putF]
  · simp only [dueN, getF, dueR]
    (repeat' split) <;> simp_all [putF]
  · simp only [dueN, getF, dueR]
    (repeat' split) <;> simp_all [putF]
  · simp only [dueN, getF, dueR]
    (repeat' split) <;> simp_all [putF]
theorem dueN_com (b : Rt) (x : Rt) (h : x.com = []) : ∀ i, (dueN b i x).com = []
  | 0 => h
  | i + 1 => by
    have ih := dueN_com b x h i
    simp only [dueN]
    split
    · exact ih
    · match i, ih with
      | 0, ih => exact ih
      | 1, ih => exact ih
      | 2, ih => exact ih
      | _ + 3, ih => exact ih
theorem valueAt_filter {kvs : List (Str × Value)} {p : Str → Bool} {j : Str} : valueAt (kvs.filter fun q => p q.1) j = if p j then valueAt kvs j else none := by
  unfold valueAt
  induction kvs with
  | nil => simp
  | cons q r ih =>
    obtain ⟨k, v⟩ := q
    by_cases hk : p k = true
    · rw [List.filter_cons_of_pos (by simpa using hk), List.find?_cons, List.find?_cons]
      by_cases hj : k = j
      · subst hj; simp [hk]
      · simp only [hj, decide_false]; exact ih
    · rw [List.filter_cons_of_neg (by simpa using hk), List.find?_cons]
      by_cases hj : k = j
      · subst hj
        rw [ih]; simp [hk]
      · simp only [hj, decide_false]; exact ih
theorem filter_nodup {kvs : List (Str × Value)} {p : Str → Bool} (h : (kvs.map (·.1)).Nodup) : ((kvs.filter fun q => p q.1).map (·.1)).Nodup :=
  List.Sublist.nodup (List.Sublist.map _ List.filter_sublist) h
theorem att_nocom {N : Led} {kvs : List (Str × Value)} {r : Rt} (h : AttK N kvs r) : AttK N (kvs.filter fun q => q.1 != Str.ofString "communities") { r with com := [] } := by
  have hv : ∀ j, j ≠ Str.ofString "communities" → valueAt (kvs.filter fun q => q.1 != Str.ofString "communities") j = valueAt kvs j := fun j hj => by
    rw [valueAt_filter (p := fun j => j != Str.ofString "communities")]; simp [hj]
  refine ⟨fun q hq => h.keys q (List.mem_filter.mp hq).1, ?_, ?_, ?_, ?_, ?_, ?_, ?_⟩
  · rw [hv _ (by decide +kernel)]; exact h.org
  · rw [hv _ (by decide +kernel)]; exact h.path
  · rw [hv _ (by decide +kernel)]; exact h.med
  · rw [hv _ (by decide +kernel)]; exact h.lp
  · rw [hv _ (by decide +kernel)]; exact h.tag
  · rw [hv _ (by decide +kernel)]; exact h.nh
  · rw [valueAt_filter (p := fun j => j != Str.ofString "communities")]
    simp only [bne_self_eq_false, Bool.false_eq_true, if_false]
    exact .none
structure Full4 (b : Rt) : Prop where
  has : ∀ i, ∃ v, getF i b = some v
def DuJ (w : World) (b a : Rt) (D : Addr) (R N₀ : Led) (m₀ : Str → Option Value) (i : Nat) (m : Str → Option Value) (news : Led) : Prop :=
  ∃ nv oD kvs, m = (fun y => if y = Str.ofString "name" then nv else m₀ y) ∧ news = (D, oD) :: R ∧ oD.IsDictOf (PySem.strKind Challenge.rw_sj0179_01.row.prog w) kvs ∧ AttK N₀ kvs (dueN b i { a with com := [] })
theorem DuJ.start {w : World} {b a : Rt} {D : Addr} {R N₀ : Led} {m₀ : Str → Option Value} {oD : Obj} {kvs : List (Str × Value)} (hd : oD.IsDictOf (PySem.strKind Challenge.rw_sj0179_01.row.prog w) kvs) (hk : AttK N₀ kvs { a with com := [] }) :
    DuJ w b a D R N₀ m₀ 0 m₀ ((D, oD) :: R) :=
  ⟨m₀ (Str.ofString "name"), oD, kvs, by
    funext y
    by_cases h : y = Str.ofString "name" <;> simp [h], rfl, hd, hk⟩
theorem DuJ.close {w : World} {b a : Rt} {D : Addr} {R N₀ full : Led} {m₀ m' : Str → Option Value} {i : Nat} {h₀ h' : Heap} {L I : Addr} {io oD : Obj} {s₁ : Shared} {tk : Nat} {kvs : List (Str × Value)}
    (F : Fr h₀ L h' m') (N : News h₀ L h' full) (hsub : ∀ p ∈ (I, io) :: (D, oD) :: R, p ∈ full) (em : ∀ y, y ≠ Str.ofString "name" → m' y = m₀ y)
    (hD : D ≠ I) (hR : ∀ p ∈ R, p.1 ≠ I) (hd : oD.IsDictOf (PySem.strKind Challenge.rw_sj0179_01.row.prog w) kvs) (hk : AttK N₀ kvs (dueN b (i + 1) { a with com := [] })) :
    UnrEnd h₀ L s₁ I io (DuJ w b a D R N₀ m₀ (i + 1)) { s₁ with heap := h', toks := tk } := by
  have em' : m' = (fun y => if y = Str.ofString "name" then m' (Str.ofString "name") else m₀ y) := by
    funext y
    (repeat' split) <;> first | (rename_i h; rw [h]; done) | exact em y (by assumption)
  exact UnrEnd.intro F N _ hsub (List.forall_mem_cons.mpr ⟨hD, hR⟩) ⟨_, oD, kvs, em', rfl, hd, hk⟩
theorem due_skip {b x : Rt} {i : Nat} {v : Int} (e : getF i b = some v) (h : v = 900) : dueN b (i + 1) x = dueN b i x := by
  subst h
  simp only [dueN, e, if_true]
theorem due_put {b x : Rt} {i : Nat} {v : Int} (e : getF i b = some v) (h : v ≠ 900) : dueN b (i + 1) x = putF i (dueN b i x) (some v) := by
  simp only [dueN, e, Option.some.injEq, h, if_false]
def DuK (a b f : Rt) (S : Addr) (R : Led) (m₀ : Str → Option Value) (i : Nat) (m : Str → Option Value) (news : Led) : Prop :=
  ∃ nv svs n, m = (fun y => if y = Str.ofString "number" then nv else m₀ y) ∧ news = (S, PySem.W.listOf (svs : List Value).toArray n) :: R ∧ IntsAre svs ((four.take i).filter (dueC a b f))
theorem DuK.start {a b f : Rt} {S : Addr} {R : Led} {m₀ : Str → Option Value} {n : Nat} : DuK a b f S R m₀ 0 m₀ ((S, PySem.W.listOf ([] : List Value).toArray n) :: R) :=
  ⟨m₀ (Str.ofString "number"), [], n, by
    funext y
    by_cases h : y = Str.ofString "number" <;> simp [h], rfl, .nil⟩
theorem DuK.close {a b f : Rt} {S : Addr} {R full : Led} {m₀ m' : Str → Option Value} {i n : Nat} {h₀ h' : Heap} {L I : Addr} {io : Obj} {s₁ : Shared} {tk : Nat} {svs : List Value}
    (F : Fr h₀ L h' m') (N : News h₀ L h' full) (hsub : ∀ p ∈ (I, io) :: (S, PySem.W.listOf (svs : List Value).toArray n) :: R, p ∈ full) (em : ∀ y, y ≠ Str.ofString "number" → m' y = m₀ y)
    (hD : S ≠ I) (hR : ∀ p ∈ R, p.1 ≠ I) (hi : IntsAre svs ((four.take (i + 1)).filter (dueC a b f))) :
    UnrEnd h₀ L s₁ I io (DuK a b f S R m₀ (i + 1)) { s₁ with heap := h', toks := tk } := by
  have em' : m' = (fun y => if y = Str.ofString "number" then m' (Str.ofString "number") else m₀ y) := by
    funext y
    (repeat' split) <;> first | (rename_i h; rw [h]; done) | exact em y (by assumption)
  exact UnrEnd.intro F N _ hsub (List.forall_mem_cons.mpr ⟨hD, hR⟩) ⟨_, svs, n, em', rfl, hi⟩
theorem take_in {a b f : Rt} {i : Nat} {j : Int} {t : Tok} {svs : List Value} (hi : IntsAre svs ((four.take i).filter (dueC a b f))) (hj : four[i]? = some j) (hc : dueC a b f j = true) : IntsAre (svs ++ [.int j t]) ((four.take (i + 1)).filter (dueC a b f)) := by
  rw [List.take_add_one, hj, List.filter_append]
  refine ints_append hi ?_
  simp only [Option.toList, List.filter_cons, hc, if_true, List.filter_nil]
  exact .cons _ _ .nil
theorem take_out {a b f : Rt} {i : Nat} {j : Int} {svs : List Value} (hi : IntsAre svs ((four.take i).filter (dueC a b f))) (hj : four[i]? = some j) (hc : dueC a b f j = false) : IntsAre svs ((four.take (i + 1)).filter (dueC a b f)) := by
  rw [List.take_add_one, hj, List.filter_append]
  simp only [Option.toList, List.filter_cons, hc, Bool.false_eq_true, if_false, List.filter_nil, List.append_nil]
  exact hi
theorem ints_at {vs : List Value} {ns : List Int} (h : IntsAre vs ns) {i : Nat} {v : Value} (hv : vs[i]? = some v) : ∃ j t, v = .int j t ∧ ns[i]? = some j := by
  induction h generalizing i with
  | nil => simp at hv
  | @cons k t vs ns _ ih =>
    cases i with
    | zero => exact ⟨k, t, by simpa using hv.symm, rfl⟩
    | succ i => obtain ⟨j, t, e1, e2⟩ := ih (i := i) (by simpa using hv); exact ⟨j, t, e1, by simpa using e2⟩
theorem due_c1 {a b f : Rt} {j : Int} (h : j ∈ b.com) : dueC a b f j = true := by simp [dueC, h]
theorem due_c2 {a b f : Rt} {j : Int} (h : j ∈ a.com) (k : j ∈ f.com) : dueC a b f j = true := by simp [dueC, h, k]
theorem due_n1 {a b f : Rt} {j : Int} (h : ¬ j ∈ b.com) (k : ¬ j ∈ a.com) : dueC a b f j = false := by simp [dueC, h, k]
theorem due_n2 {a b f : Rt} {j : Int} (h : ¬ j ∈ b.com) (k : ¬ j ∈ f.com) : dueC a b f j = false := by simp [dueC, h, k]
theorem att_nil {N : Led} {kvs : List (Str × Value)} {x : Rt} (h : AttK N kvs x) (e : x.com = []) : AttK N kvs { x with com := [] } := by
  have e' : { x with com := [] } = x := by rw [← e]
  rw [e']
  exact h

section
theorem kwdue47 : True := by
  k_with_none
  k_with "m call builtin:len" => (k_here; (with_reducible show wpAny _ _ (call (Value.builtin "len") [Value.ref _]) _ _ _); k_dflt (refine' len_led ?k1_z ?k2_z ?k3_z ?k4_z ?_; (case k1_z => k_asm); (case k2_z => k_mem); (case k3_z => with_reducible assumption); (case k4_z => omega)))
  k_with "m ite" => (k_closed; with_reducible (first | refine ite_tt ?_ | refine ite_ff ?_ | refine PySem.W.ite_neg (by decide) ?_ | refine PySem.W.ite_pos (by decide) ?_))
  k_with "m subscriptTail" => (k_here; (with_reducible show wpAny _ _ (subscriptTail _ _ (Value.ref _) (Value.int _ _)) _ _ _); k_dflt (first | (refine' sub_list ?N_z ?m_z ?a_z ?b_z ?x_z ?s_z ?_; (case N_z => k_asm); (case m_z => k_mem); (case a_z => decide); (case b_z => decide); (case x_z => rfl); (case s_z => with_unfolding_all rfl)) | (refine' sub_tup ?N_z ?m_z ?a_z ?b_z ?j_z ?x_z ?s_z ?_; (case N_z => k_asm); (case m_z => k_mem); (case a_z => decide); (case b_z => decide); (case j_z => rfl); (case x_z => rfl); (case s_z => with_unfolding_all rfl))))
  k_with "m subscriptTail Name Call ref int" => (k_here; (with_reducible show wpAny _ _ (subscriptTail _ _ (Value.ref _) (Value.int _ _)) _ _ _); k_dflt (first | (refine' sub_list_any ?N_z ?m_z ?a_z ?b_z ?z_z ?s_z ?_; (case N_z => k_asm); (case m_z => k_mem); (case a_z => omega); (case b_z => first | (simp only [List.length_cons, List.length_nil]; omega) | (simp only [List.length_append, List.length_cons, List.length_nil]; omega) | (simp only [List.length_append]; omega)); (case z_z => first | exact Nat.le_of_ble_eq_true rfl | (simp only [List.length_append, List.length_cons, List.length_nil]; omega) | (simp only [List.length_append]; omega)); (case s_z => with_unfolding_all rfl)) | (refine' sub_tup_any ?N_z ?m_z ?a_z ?b_z ?z_z ?s_z ?_; (case N_z => k_asm); (case m_z => k_mem); (case a_z => omega); (case b_z => first | (simp only [List.length_cons, List.length_nil]; omega) | (simp only [List.length_append, List.length_cons, List.length_nil]; omega) | (simp only [List.length_append]; omega)); (case z_z => first | exact Nat.le_of_ble_eq_true rfl | (simp only [List.length_append, List.length_cons, List.length_nil]; omega) | (simp only [List.length_append]; omega)); (case s_z => with_unfolding_all rfl))); intro _ _)
  k_with "m subscriptTail Tuple" => (k_here; (with_reducible show wpAny _ _ (subscriptTail _ _ (Value.ref _) (Value.int _ _)) _ _ _); k_dflt (first | (refine' sub_list_any ?N_z ?m_z ?a_z ?b_z ?z_z ?s_z ?_; (case N_z => k_asm); (case m_z => k_mem); (case a_z => omega); (case b_z => first | (simp only [List.length_cons, List.length_nil]; omega) | (simp only [List.length_append, List.length_cons, List.length_nil]; omega) | (simp only [List.length_append]; omega)); (case z_z => first | exact Nat.le_of_ble_eq_true rfl | (simp only [List.length_append, List.length_cons, List.length_nil]; omega) | (simp only [List.length_append]; omega)); (case s_z => with_unfolding_all rfl)) | (refine' sub_tup_any ?N_z ?m_z ?a_z ?b_z ?z_z ?s_z ?_; (case N_z => k_asm); (case m_z => k_mem); (case a_z => omega); (case b_z => first | (simp only [List.length_cons, List.length_nil]; omega) | (simp only [List.length_append, List.length_cons, List.length_nil]; omega) | (simp only [List.length_append]; omega)); (case z_z => first | exact Nat.le_of_ble_eq_true rfl | (simp only [List.length_append, List.length_cons, List.length_nil]; omega) | (simp only [List.length_append]; omega)); (case s_z => with_unfolding_all rfl))); intro _ _)
  k_with "m subscriptTail List" => (k_here; (with_reducible show wpAny _ _ (subscriptTail _ _ (Value.ref _) (Value.int _ _)) _ _ _); k_dflt (first | (refine' sub_list_any ?N_z ?m_z ?a_z ?b_z ?z_z ?s_z ?_; (case N_z => k_asm); (case m_z => k_mem); (case a_z => omega); (case b_z => first | (simp only [List.length_cons, List.length_nil]; omega) | (simp only [List.length_append, List.length_cons, List.length_nil]; omega) | (simp only [List.length_append]; omega)); (case z_z => first | exact Nat.le_of_ble_eq_true rfl | (simp only [List.length_append, List.length_cons, List.length_nil]; omega) | (simp only [List.length_append]; omega)); (case s_z => with_unfolding_all rfl)) | (refine' sub_tup_any ?N_z ?m_z ?a_z ?b_z ?z_z ?s_z ?_; (case N_z => k_asm); (case m_z => k_mem); (case a_z => omega); (case b_z => first | (simp only [List.length_cons, List.length_nil]; omega) | (simp only [List.length_append, List.length_cons, List.length_nil]; omega) | (simp only [List.length_append]; omega)); (case z_z => first | exact Nat.le_of_ble_eq_true rfl | (simp only [List.length_append, List.length_cons, List.length_nil]; omega) | (simp only [List.length_append]; omega)); (case s_z => with_unfolding_all rfl))); intro _ _)
  k_with "m execs cons" => (k_here; (with_reducible show wpAny _ _ _ _ _ (Shared.mk _ _ _ (_ + 1) _)); refine gen_toks ?_; intro (tk : Nat))
  k_with "m getMethod ref" => (k_here; (with_reducible show wpAny _ _ (getMethod (Value.ref _) (Str.ofString "items") _) _ _ _); k_dflt (refine' kdl_method (knd := PySem.strKind _ _) PySem.F.slot_dict_items PySem.F.type_dict_items ?N_z ?p_z ?d_z ?_; (case N_z => k_asm); (case p_z => k_mem); (case d_z => assumption)))
  k_with "m call builtin:dict.items" => (k_here; (show wpAny _ _ (call (Value.builtin "dict.items") [Value.ref _]) _ _ _); k_dflt (refine' kdx_view (knd := PySem.strKind _ _) ?F_z ?N_z ?p_z ?d_z ?lo_z ?_; (case F_z => k_asm); (case N_z => k_asm); (case p_z => k_mem); (case d_z => assumption); (case lo_z => assumption)); intro _ _ _ _ _; (try k_sweep))
  k_with "m call type:list" => (k_here; (with_reducible show wpAny _ _ (call (Value.type "list") [Value.ref _]) _ _ _); k_dflt (refine' items_led rfl ?F_z ?N_z ?v_z ?m_z ?d_z ?z_z ?_; (case F_z => k_asm); (case N_z => k_asm); (case v_z => k_mem); (case m_z => k_mem); (case d_z => assumption); (case z_z => omega)); intro _ _ _ _ _ _ _ _ _ _ _; (try k_sweep))
  k_with "m call type:dict" => (k_here; (with_reducible show wpAny _ _ (call (Value.type "dict") [Value.ref _]) _ _ _); k_dflt (refine' dict_pairs rfl ?F_z ?N_z ?l_z ?p_z ?n_z ?lim_z ?z_z ?_; (case F_z => k_asm); (case N_z => k_asm); (case l_z => k_mem); (case p_z => exact PairsAre.mono (by assumption) (by (repeat' (first | assumption | exact List.forall_mem_nil _ | refine sub_app ?_ ?_ | refine sub_cons ?_ ?_ | k_mem | (intro _ _; k_mem))))); (case n_z => first | assumption | exact dict_nodup (by assumption)); (case lim_z => exact Top.nolimit (by assumption)); (case z_z => omega)); intro _ _ _ _ _ _ _ _ _; (try k_sweep))
  k_with "m getMethod ref" => (k_here; (with_reducible show wpAny _ _ (getMethod (Value.ref _) (Str.ofString "get") _) _ _ _); k_dflt (refine' kdg_method (knd := PySem.strKind _ _) ?N_z ?hp_z ?hd_z ?_; (case N_z => k_asm); (case hp_z => k_mem); (case hd_z => assumption)))
  k_with "m call builtin:dict.get" => (k_here; k_dflt (refine' kdg_get2 (knd := PySem.strKind _ _) ?N_z ?hp_z ?hd_z ?lo_z (strKind_is _ _ _ _) _ ?hl_z ?_; (case N_z => k_asm); (case hp_z => k_mem); (case hd_z => assumption); (case lo_z => assumption); (case hl_z => assumption)); (try dsimp only [Option.getD]))
  k_with "m call builtin:dict.get" => (k_here; (show wpAny _ _ (call (Value.builtin "dict.get") [Value.ref _, Value.str (Str.ofString "communities") _, Value.ref _]) _ _ _); k_dflt (refine' get_com ?N_z ?hp_z ?hd_z ?lo_z ?hk_z ?hsub_z ?hl_z ?he_z ?_; (case N_z => k_asm); (case hp_z => k_mem); (case hd_z => assumption); (case lo_z => assumption); (case hk_z => assumption); (case hsub_z => (first | ((repeat' (first | assumption | exact List.forall_mem_nil _ | refine sub_app ?_ ?_ | refine sub_cons ?_ ?_ | k_mem | (intro _ _; k_mem))); done) | exact sub_tr (by assumption) (by (repeat' (first | assumption | exact List.forall_mem_nil _ | refine sub_app ?_ ?_ | refine sub_cons ?_ ?_ | k_mem | (intro _ _; k_mem)))))); (case hl_z => assumption); (case he_z => k_mem)); intro _ _ _ _ _)
  k_with "m subscriptTail" => (k_here; (with_reducible show wpAny _ _ (subscriptTail _ _ (Value.ref _) (Value.str _ _)) _ _ _); k_dflt (refine' item_led ?N_z ?hp_z ?hd_z ?hl_z ?hs_z ?hg_z ?_; (case N_z => k_asm); (case hp_z => k_mem); (case hd_z => assumption); (case hl_z => assumption); (case hs_z => with_unfolding_all rfl); (case hg_z => intro _; with_unfolding_all rfl)))
  k_with "m call type:tuple" => (k_here; (with_reducible show wpAny _ _ (call (Value.type "tuple") [Value.ref _]) _ _ _); k_dflt (refine' tuple_led ?F_z ?N_z ?m_z ?z_z ?_; (case F_z => k_asm); (case N_z => k_asm); (case m_z => k_mem); (case z_z => first | omega | exact Nat.le_of_ble_eq_true rfl | exact Nat.le_trans (List.length_filter_le _ _) (Nat.le_of_ble_eq_true rfl))); intro _ _ _ _ _; (try k_sweep))
  k_with "m compareOp NotEq ref ref" => (k_here; (with_reducible show wpAny _ _ (compareOp CmpOp.NotEq (Value.ref _) (Value.ref _)) _ _ _); k_dflt (refine' ne_ints_led ?N_z ?a_z ?b_z ?i_z ?j_z ?u_z ?_; (case N_z => k_asm); (case a_z => k_mem); (case b_z => k_mem); (case i_z => assumption); (case j_z => first | exact .nil | assumption); (case u_z => (first | omega | (simp only [depth_caller, depth_deeper]; decide) | ((have hcL9 := cLine_is); (simp only [units_caller, units_deeper, Around.mark_units]); omega) | ((try simp only [depth_deeper, units_deeper, depth_in1, units_in1]); omega) | fail "room"))))
  k_with "m compareOp In int ref" => (k_here; k_dflt (refine in_tup_ints (by k_asm) (by k_mem) (by assumption) ?_))
  k_with "m setItem ref str" => (k_here; (with_reducible show wpAny _ _ (setItem (Value.ref _) (Value.str _ _) _) _ _ _); k_dflt (refine' set_led ?F_z ?N_z ?U_z ?hne_z ?hd_z ?hz_z ?_; (case F_z => k_asm); (case N_z => k_asm); (case U_z => (repeat (first | exact Pull.here | apply Pull.there | apply Pull.app))); (case hd_z => assumption); (case hne_z => (repeat' (first | assumption | refine List.forall_mem_cons.mpr ⟨?_, ?_⟩ | refine List.forall_mem_append.mpr ⟨?_, ?_⟩ | exact List.forall_mem_nil _ | exact ne_of_abv1 (by assumption) | exact ne_of_abv2 (by assumption) (by k_mem) | exact ne_of_all (by assumption) (by k_mem) | exact ne_of_low1 (by assumption) (by k_mem) | exact ne_of_low (by assumption) (by (repeat' (first | assumption | exact List.forall_mem_nil _ | refine sub_app ?_ ?_ | refine sub_cons ?_ ?_ | k_mem | (intro _ _; k_mem))))))); (case hz_z => omega)); intro _ _ _ _ _; (try k_sweep))
  k_with "m call builtin:list.append" => (k_here; (show wpAny _ _ (call (Value.builtin "list.append") [Value.ref _, _]) _ _ _); first | (k_dflt (refine' append_led ?F_z ?N_z ?U_z ?hne_z ?hz_z ?_; (case F_z => k_asm); (case N_z => k_asm); (case U_z => (repeat (first | exact Pull.here | apply Pull.there | apply Pull.app))); (case hne_z => (repeat' (first | assumption | refine List.forall_mem_cons.mpr ⟨?_, ?_⟩ | refine List.forall_mem_append.mpr ⟨?_, ?_⟩ | exact List.forall_mem_nil _ | exact ne_of_abv1 (by assumption) | exact ne_of_abv2 (by assumption) (by k_mem) | exact ne_of_all (by assumption) (by k_mem) | exact ne_of_low1 (by assumption) (by k_mem) | exact ne_of_low (by assumption) (by (repeat' (first | assumption | exact List.forall_mem_nil _ | refine sub_app ?_ ?_ | refine sub_cons ?_ ?_ | k_mem | (intro _ _; k_mem))))))); (case hz_z => first | omega | exact Nat.le_of_ble_eq_true rfl)); intro _ _ _; (try k_sweep)) | refine stop_of ?_)
  k_with "m pyIter ref" => refine stop_of ?_
  k_with "m UnrEnd" => refine stop_of ?_
  k_with "m exec For Name Name cons nil" => (k_here; (rename Fr _ _ _ _ => lF'); (with_unfolding_all refine' For_invVF lF' ?k1_z ?k2_z ?_; (case k1_z => exact rfl); (case k2_z => exact rfl); k_whole))
  k_with "m exec For Name Tuple cons nil" => (k_here; (rename Fr _ _ _ _ => lF'); (with_unfolding_all refine' For_invVF lF' ?k1_z ?k2_z ?_; (case k1_z => exact rfl); (case k2_z => exact rfl); k_whole))
  k_with "m eval ListComp" => refine stop_of ?_
  k_with "m Exists" => refine stop_of ?_
  k_with "m newTuple" => ((with_reducible show wpAny _ _ (newTuple _) (fun y s₃ => (∃ T, y = Value.ref T ∧ _) ∧ Keeps _ _) _ _); refine stop_of ?_)
  trivial
theorem due_ct {w : World} {da db df : Addr} {news N₀ : Led} {ra rb rf : Rt} (ha : AttIs w N₀ da ra) (hb : AttIs w N₀ db rb) (hf : AttIs w N₀ df rf) (hsub : ∀ p ∈ N₀, p ∈ news) (oka : ra.Ok) (okb : rb.Ok) (okf : rf.Ok) (h4 : Full4 rb) :
    Ct w 161 [.ref da, .ref db, .ref df] 30 500 news (NewR w news N₀ (dueR ra rb rf)) := by
  obtain ⟨hma, hda, loa, hka⟩ := ha
  rename_i oa kva
  obtain ⟨hmb, hdb, lob, hkb⟩ := hb
  rename_i ob kvb
  obtain ⟨hmf, hdf, lof, hkf⟩ := hf
  rename_i of' kvf
  have hma' := hsub _ hma
  have hmb' := hsub _ hmb
  have hmf' := hsub _ hmf
  have hza := att_len hda hka
  have la4 := oka.len
  have lb4 := okb.len
  have lf4 := okf.len
  unfold Ct
  k_fill
  intro mean mg mb dp un gd cn cs a ccd cl outer A₀ base h₀ L m s Q E B F X N T hk0 hd0 hu hret
  refine wpAny_call ?_
  k_dflt (refine' PySem.W.code_defC ?k1 ?k2 ?k3 ?k4 ?k5 ?kA ?kF ?kK ?k6 ?k7 ?k8 ?k9 ?kB ?kD ?_ ?c2 ?c3 ?c4; (case kA => exact rfl); (case kF => exact rfl); (case kK => first | exact rfl | assumption); (case k1 => k_asm); (case k2 => k_asm); (case k3 => k_asm); (case k4 => k_asm); (case k5 => k_asm); (case k6 => k_is); (case k7 => k_is); (case k8 => (first | omega | (simp only [depth_caller, depth_deeper]; decide) | ((have hcL9 := cLine_is); (simp only [units_caller, units_deeper, Around.mark_units]); omega) | ((try simp only [depth_deeper, units_deeper, depth_in1, units_in1]); omega) | fail "room")); (case k9 => exact BindsTo.of_eq rfl); (case kB => exact rfl); (case kD => decide +kernel); (case c2 => exact rfl); (case c3 => exact rfl); (case c4 => exact rfl); k_whole; intro g' L' h' tk' cells' FG' F' N' Y' B' X' T' l1; k_cells Y'; (try simp only [List.cons_append, List.nil_append] at N'); (try dsimp only); (try k_fold))
  rename_i oc dc
  k_steps
  unfold Stop
  rename Fr _ _ _ _ => F3
  refine listcomp_pairs F3 rfl (by with_unfolding_all rfl) (by decide) (by with_unfolding_all rfl) (by decide) (by with_unfolding_all rfl) (by intro _; with_unfolding_all rfl) ?_
  k_steps
  unfold Stop
  refine ⟨_, _, rfl, .mk (o := oa) (kvs := kva) (p := fun j => j != Str.ofString "communities") (by k_asm) (by k_asm) (by k_mem) hda loa (by omega) ?tests ?item ?cont⟩
  case tests =>
    intro C j yv key s₂ m₂ E' hv hi hn hx hk
    obtain ⟨tj, rfl⟩ := Value.isStrOf_shape hi
    k_steps
    (exact ⟨_, _, rfl, fun _ _ e => e⟩)
  case item =>
    intro C j yv key s₂ m₂ E' hv hi hp hn hx hk
    obtain ⟨tj, rfl⟩ := Value.isStrOf_shape hi
    k_steps
    unfold Stop
    refine wpAny_newTuple ?_ (by rw [sizeLine_eq]; exact Nat.le_of_ble_eq_true rfl)
    exact ⟨⟨_, rfl, Heap.get?_none_of_le (Nat.le_refl _), Heap.get?_push_size _ rfl⟩, _, _, rfl, fun b o e => Heap.get?_push_of_some _ e⟩
  case cont =>
    intro S vs tups n2 h2 tk2 F2 N2 hpairs
    have hnd := filter_nodup (p := fun j => j != Str.ofString "communities") (dict_nodup hda)
    have hlen9 := List.length_filter_le (fun q : Str × Value => q.1 != Str.ofString "communities") kva
    k_steps
    unfold Stop
    rename Fr _ _ _ _ => F1
    rename News _ _ _ _ => N1
    rename_i D9 oD9 h9 tk9 l9 lo9 hd9 h10
    have N2 : News _ _ _ ((D9, oD9) :: (L' + 1, oc) :: news) := newsSub N1 (List.forall_mem_cons.mpr ⟨by k_mem, List.forall_mem_cons.mpr ⟨by k_mem, by (repeat' (first | assumption | exact List.forall_mem_nil _ | refine sub_app ?_ ?_ | refine sub_cons ?_ ?_ | k_mem | (intro _ _; k_mem)))⟩⟩)
    have hDR : ∀ q ∈ (L' + 1, oc) :: news, q.1 ≠ D9 := fun q hq => Nat.ne_of_lt (l9 q (by rcases List.mem_cons.mp hq with rfl | hq <;> k_mem))
    have hDL : ∀ q ∈ news, @LT.lt Nat _ q.1 D9 := fun q hq => l9 q (by k_mem)
    have hg := X' 123 _ (by k_is)
    refine iter_gtup (vs := names4 385 386 387 388) (DuJ w rb ra D9 _ N₀ _) rfl F1 N2 ⟨_, hg, rfl, _, rfl⟩ (DuJ.start hd9 (att_nocom hka)) ?turn ?done
    case turn =>
      clear F1 N1 N2
      rintro I io i v m₁ news₁ h tk hlI hiv ⟨nv, oD, kvs, rfl, rfl, hd2, hk2⟩ hoff F1 N1
      obtain ⟨tv, rfl⟩ := names4_at hiv
      obtain ⟨v9, hv9⟩ := h4.has i
      obtain ⟨t8, hval⟩ := att_val hkb hv9
      have hz8 := att_len hd2 hk2
      have hrD : ∀ q ∈ (I, io) :: (L' + 1, oc) :: news, q.1 ≠ D9 := List.forall_mem_cons.mpr ⟨fun e => hoff (D9, oD) (by k_mem) e.symm, hDR⟩
      k_steps
      all_goals unfold Stop
      all_goals rename Fr _ _ _ _ => F5
      all_goals rename News _ _ _ _ => N5
      all_goals first
        | (rename Obj.IsDictOf _ _ (stored _ _ _) => hd5
           rename (_ : Int) ≠ 900 => hne
           exact DuJ.close F5 N5 (by (repeat' (first | assumption | exact List.forall_mem_nil _ | refine sub_app ?_ ?_ | refine sub_cons ?_ ?_ | k_mem | (intro _ _; k_mem)))) (fun y h1 => by simp [h1]) (hoff _ List.mem_cons_self) (fun q hq => hoff q (List.mem_cons_of_mem _ hq)) hd5 (by rw [due_put hv9 hne]; exact att_set hd5 hk2 (sets_put i _ _) fun j => valueAt_stored))
        | (rename (_ : Int) = 900 => heq
           exact DuJ.close F5 N5 (by (repeat' (first | assumption | exact List.forall_mem_nil _ | refine sub_app ?_ ?_ | refine sub_cons ?_ ?_ | k_mem | (intro _ _; k_mem)))) (fun y h1 => by simp [h1]) (hoff _ List.mem_cons_self) (fun q hq => hoff q (List.mem_cons_of_mem _ hq)) hd2 (by rw [due_skip hv9 heq]; exact hk2))
    case done =>
      clear F1 N1 N2
      rintro m₁ news₁ h tk ⟨nv, oD, kvs, rfl, rfl, hd2, hk2⟩ F1 N1
      have hz8 := att_len hd2 hk2
      k_steps
      unfold Stop
      rename Fr _ _ _ _ => F1
      rename News _ _ _ _ => N1
      have N2 := newsPull N1 (p := (_, PySem.W.listOf ([] : List Value).toArray _)) (by (repeat (first | exact Pull.here | apply Pull.there | apply Pull.app)))
      refine iter_tup (vs := [.int 1 ?a1, .int 2 ?a2, .int 3 ?a3, .int 4 ?a4]) (DuK ra rb rf _ _ _) rfl F1 N2 ?ht DuK.start ?hjt ?turn2 ?done2
      case ht => k_mem
      case hjt =>
        rintro i m' n' ⟨nv2, svs, n3, rfl, rfl, hi⟩
        k_mem
      case turn2 =>
        clear F1 N1 N2
        rintro I io i v m₁ news₁ h tk hlI hiv ⟨nv2, svs, n3, rfl, rfl, hi⟩ hoff F1 N1
        obtain ⟨j, tj, rfl, hj⟩ := ints_at ints4 hiv
        have hIS : I ≠ _ := fun e => hoff _ List.mem_cons_self e.symm
        have hz9 := hi.length
        have hz10 := List.length_filter_le (dueC ra rb rf) (four.take i)
        have hz11 : (four.take i).length ≤ 4 := by rw [List.length_take]; exact Nat.min_le_right _ _
        k_steps
        all_goals unfold Stop
        all_goals rename Fr _ _ _ _ => F5
        all_goals rename News _ _ _ _ => N5
        all_goals first
          | exact DuK.close F5 N5 (by (repeat' (first | assumption | exact List.forall_mem_nil _ | refine sub_app ?_ ?_ | refine sub_cons ?_ ?_ | k_mem | (intro _ _; k_mem)))) (fun y h1 => by simp [h1]) (hoff _ List.mem_cons_self) (fun q hq => hoff q (List.mem_cons_of_mem _ hq)) (take_in hi hj (by first | exact due_c1 (by assumption) | exact due_c2 (by assumption) (by assumption)))
          | exact DuK.close F5 N5 (by (repeat' (first | assumption | exact List.forall_mem_nil _ | refine sub_app ?_ ?_ | refine sub_cons ?_ ?_ | k_mem | (intro _ _; k_mem)))) (fun y h1 => by simp [h1]) (hoff _ List.mem_cons_self) (fun q hq => hoff q (List.mem_cons_of_mem _ hq)) (take_out hi hj (by first | exact due_n1 (by assumption) (by assumption) | exact due_n2 (by assumption) (by assumption)))
      case done2 =>
        clear F1 N1 N2
        rintro m₁ news₁ h tk ⟨nv2, svs, n3, rfl, rfl, hi⟩ F1 N1
        have hi5 : IntsAre svs (four.filter (dueC ra rb rf)) := hi
        have hz9 := hi5.length
        have hz10 := filter_le_four (dueC ra rb rf)
        k_steps
        all_goals rename Fr _ _ _ _ => F5
        all_goals rename News _ _ _ _ => N5
        · rename decide (_ = ([] : List Int)) = true => hnil
          refine hret _ ([(D9, oD)] ++ news) _ _ F5 (newsSub N5 (List.forall_mem_cons.mpr ⟨by k_mem, by (repeat' (first | assumption | exact List.forall_mem_nil _ | refine sub_app ?_ ?_ | refine sub_cons ?_ ?_ | k_mem | (intro _ _; k_mem)))⟩)) ⟨_, rfl, (fun q hq p hp => ?_), D9, rfl, .mk (by k_mem) hd2 lo9 ?_⟩
          · rw [List.mem_singleton.mp hq]; exact hDL p hp
          · rw [← due_done, of_decide_eq_true hnil]
            exact att_nil (hk2.mono sub_right) (dueN_com _ _ rfl 4)
        · rename decide (_ = ([] : List Int)) = false => hne
          rename Obj.IsDictOf _ _ (stored _ _ _) => hd5
          refine hret _ ([(D9, _), (_, tupO svs)] ++ news) _ _ F5 (newsSub N5 (List.forall_mem_cons.mpr ⟨by k_mem, List.forall_mem_cons.mpr ⟨by k_mem, by (repeat' (first | assumption | exact List.forall_mem_nil _ | refine sub_app ?_ ?_ | refine sub_cons ?_ ?_ | k_mem | (intro _ _; k_mem)))⟩⟩)) ⟨_, rfl, (fun q hq p hp => ?_), D9, rfl, .mk (by k_mem) hd5 lo9 ?_⟩
          · rcases List.mem_cons.mp hq with rfl | hq
            · exact hDL p hp
            · rw [List.mem_singleton.mp hq]; exact lt_of_all (o := p.2) (by assumption) (by k_mem)
          · rw [← due_done]
            exact att_com hd5 (hk2.mono sub_right) (fun j hj => by rw [valueAt_stored, if_neg hj]) (by rw [valueAt_stored, if_pos rfl]; exact .some (by k_mem) hi5 (of_decide_eq_false hne))
end

def PolPost2 (w : World) (news N₀ : Led) (o : Bool) (q : Rt) : Value → Led → Prop := fun r news' => ∃ tl, news' = tl ++ news ∧ (∀ q ∈ tl, ∀ p ∈ news, @LT.lt Nat _ p.1 q.1) ∧ match o with
  | false => r = .none
  | true => ∃ D, r = .ref D ∧ AttIs w (tl ++ N₀) D q
theorem kwlawr48 : True := by
  k_with_none
  k_with "m call builtin:len" => (k_here; (with_reducible show wpAny _ _ (call (Value.builtin "len") [Value.ref _]) _ _ _); k_dflt (refine' len_led ?k1_z ?k2_z ?k3_z ?k4_z ?_; (case k1_z => k_asm); (case k2_z => k_mem); (case k3_z => with_reducible assumption); (case k4_z => omega)))
  k_with "m ite" => (k_closed; with_reducible (first | refine ite_tt ?_ | refine ite_ff ?_ | refine PySem.W.ite_neg (by decide) ?_ | refine PySem.W.ite_pos (by decide) ?_))
  k_with "m subscriptTail" => (k_here; (with_reducible show wpAny _ _ (subscriptTail _ _ (Value.ref _) (Value.int _ _)) _ _ _); k_dflt (first | (refine' sub_list ?N_z ?m_z ?a_z ?b_z ?x_z ?s_z ?_; (case N_z => k_asm); (case m_z => k_mem); (case a_z => decide); (case b_z => decide); (case x_z => rfl); (case s_z => with_unfolding_all rfl)) | (refine' sub_tup ?N_z ?m_z ?a_z ?b_z ?j_z ?x_z ?s_z ?_; (case N_z => k_asm); (case m_z => k_mem); (case a_z => decide); (case b_z => decide); (case j_z => rfl); (case x_z => rfl); (case s_z => with_unfolding_all rfl))))
  k_with "m subscriptTail Name Call ref int" => (k_here; (with_reducible show wpAny _ _ (subscriptTail _ _ (Value.ref _) (Value.int _ _)) _ _ _); k_dflt (first | (refine' sub_list_any ?N_z ?m_z ?a_z ?b_z ?z_z ?s_z ?_; (case N_z => k_asm); (case m_z => k_mem); (case a_z => omega); (case b_z => first | (simp only [List.length_cons, List.length_nil]; omega) | (simp only [List.length_append, List.length_cons, List.length_nil]; omega) | (simp only [List.length_append]; omega)); (case z_z => first | exact Nat.le_of_ble_eq_true rfl | (simp only [List.length_append, List.length_cons, List.length_nil]; omega) | (simp only [List.length_append]; omega)); (case s_z => with_unfolding_all rfl)) | (refine' sub_tup_any ?N_z ?m_z ?a_z ?b_z ?z_z ?s_z ?_; (case N_z => k_asm); (case m_z => k_mem); (case a_z => omega); (case b_z => first | (simp only [List.length_cons, List.length_nil]; omega) | (simp only [List.length_append, List.length_cons, List.length_nil]; omega) | (simp only [List.length_append]; omega)); (case z_z => first | exact Nat.le_of_ble_eq_true rfl | (simp only [List.length_append, List.length_cons, List.length_nil]; omega) | (simp only [List.length_append]; omega)); (case s_z => with_unfolding_all rfl))); intro _ _)
  k_with "m subscriptTail Tuple" => (k_here; (with_reducible show wpAny _ _ (subscriptTail _ _ (Value.ref _) (Value.int _ _)) _ _ _); k_dflt (first | (refine' sub_list_any ?N_z ?m_z ?a_z ?b_z ?z_z ?s_z ?_; (case N_z => k_asm); (case m_z => k_mem); (case a_z => omega); (case b_z => first | (simp only [List.length_cons, List.length_nil]; omega) | (simp only [List.length_append, List.length_cons, List.length_nil]; omega) | (simp only [List.length_append]; omega)); (case z_z => first | exact Nat.le_of_ble_eq_true rfl | (simp only [List.length_append, List.length_cons, List.length_nil]; omega) | (simp only [List.length_append]; omega)); (case s_z => with_unfolding_all rfl)) | (refine' sub_tup_any ?N_z ?m_z ?a_z ?b_z ?z_z ?s_z ?_; (case N_z => k_asm); (case m_z => k_mem); (case a_z => omega); (case b_z => first | (simp only [List.length_cons, List.length_nil]; omega) | (simp only [List.length_append, List.length_cons, List.length_nil]; omega) | (simp only [List.length_append]; omega)); (case z_z => first | exact Nat.le_of_ble_eq_true rfl | (simp only [List.length_append, List.length_cons, List.length_nil]; omega) | (simp only [List.length_append]; omega)); (case s_z => with_unfolding_all rfl))); intro _ _)
  k_with "m subscriptTail List" => (k_here; (with_reducible show wpAny _ _ (subscriptTail _ _ (Value.ref _) (Value.int _ _)) _ _ _); k_dflt (first | (refine' sub_list_any ?N_z ?m_z ?a_z ?b_z ?z_z ?s_z ?_; (case N_z => k_asm); (case m_z => k_mem); (case a_z => omega); (case b_z => first | (simp only [List.length_cons, List.length_nil]; omega) | (simp only [List.length_append, List.length_cons, List.length_nil]; omega) | (simp only [List.length_append]; omega)); (case z_z => first | exact Nat.le_of_ble_eq_true rfl | (simp only [List.length_append, List.length_cons, List.length_nil]; omega) | (simp only [List.length_append]; omega)); (case s_z => with_unfolding_all rfl)) | (refine' sub_tup_any ?N_z ?m_z ?a_z ?b_z ?z_z ?s_z ?_; (case N_z => k_asm); (case m_z => k_mem); (case a_z => omega); (case b_z => first | (simp only [List.length_cons, List.length_nil]; omega) | (simp only [List.length_append, List.length_cons, List.length_nil]; omega) | (simp only [List.length_append]; omega)); (case z_z => first | exact Nat.le_of_ble_eq_true rfl | (simp only [List.length_append, List.length_cons, List.length_nil]; omega) | (simp only [List.length_append]; omega)); (case s_z => with_unfolding_all rfl))); intro _ _)
  k_with "m execs cons" => (k_here; (with_reducible show wpAny _ _ _ _ _ (Shared.mk _ _ _ (_ + 1) _)); refine gen_toks ?_; intro (tk : Nat))
  trivial
theorem polrun2 {w : World} {e : Cx} {v : Value} {terms : List (List St)} {c o : Bool} {f : Rt → Rt} {pa at' fa : Addr} {r : Rt} {news N₀ : Led} (hr : ∀ r, runT e c terms r = if o then some (f r) else none) (hpol : PolIs news v terms c) (hp : PreIs news pa e.pre) (ha : AttIs w N₀ at' r) (hsub : ∀ p ∈ N₀, p ∈ news) (hok : r.Ok) (hf : FactsIs w news fa e.peer) (ho : r.org = e.org) (ht : r.two = e.two) :
    Ct w 122 [v, .ref pa, .ref at', .ref fa] 200 2000 news (PolPost2 w news N₀ o (f r)) := by
  have c := polrun_ct hpol hp ha hsub hok hf ho ht
  rw [hr] at c
  cases o
  · exact c
  · exact c
theorem eq_path {h₀ h : Heap} {L p p' : Addr} {news : Led} {x : Bool} (N : News h₀ L h news) (a : PathIs news p x) (b : PathIs news p' x) {A : Around} {s : Shared} (hs : s.heap = h) (hu : A.in1.units + 64 < cLine) : SeqAt.EqAt A.in1 s (.ref p) (.ref p') true := by
  subst hs
  cases a with
  | two a1 a2 a3 => cases b with
    | two b1 b2 b3 =>
      have ra : Reads s.heap (.ref p) (.tuple [.tuple [.int 2, .tuple [.int 7, .int 8]]]) _ := .tuple (N _ a1).1 rfl rfl (.cons (.tuple (N _ a2).1 rfl rfl (.cons (.int _ _) (.cons (.tuple (N _ a3).1 rfl rfl (.cons (.int _ _) (.cons (.int _ _) .nil))) .nil))) .nil)
      have rb : Reads s.heap (.ref p') (.tuple [.tuple [.int 2, .tuple [.int 7, .int 8]]]) _ := .tuple (N _ b1).1 rfl rfl (.cons (.tuple (N _ b2).1 rfl rfl (.cons (.int _ _) (.cons (.tuple (N _ b3).1 rfl rfl (.cons (.int _ _) (.cons (.int _ _) .nil))) .nil))) .nil)
      exact keq_at ra rb (by decide +kernel) (by decide +kernel) hu
  | one a1 a2 a3 => cases b with
    | one b1 b2 b3 =>
      have ra : Reads s.heap (.ref p) (.tuple [.tuple [.int 2, .tuple [.int 8]]]) _ := .tuple (N _ a1).1 rfl rfl (.cons (.tuple (N _ a2).1 rfl rfl (.cons (.int _ _) (.cons (.tuple (N _ a3).1 rfl rfl (.cons (.int _ _) .nil)) .nil))) .nil)
      have rb : Reads s.heap (.ref p') (.tuple [.tuple [.int 2, .tuple [.int 8]]]) _ := .tuple (N _ b1).1 rfl rfl (.cons (.tuple (N _ b2).1 rfl rfl (.cons (.int _ _) (.cons (.tuple (N _ b3).1 rfl rfl (.cons (.int _ _) .nil)) .nil))) .nil)
      exact keq_at ra rb (by decide +kernel) (by decide +kernel) hu
theorem eq_tup_ints {A : Around} {s : Shared} {h₀ : Heap} {L a b : Addr} {news : Led} {vs us : List Value} {ns : List Int} (N : News h₀ L s.heap news) (ha : (a, tupO vs) ∈ news) (hb : (b, tupO us) ∈ news) (hi : IntsAre vs ns) (hi' : IntsAre us ns) (hu : A.in1.units + 64 < cLine) : SeqAt.EqAt A.in1 s (.ref a) (.ref b) true := by
  have x := keq_at (A := A) (Reads.tuple (N _ ha).1 rfl rfl (reads_ints hi)) (Reads.tuple (N _ hb).1 rfl rfl (reads_ints hi')) (canLay_ints ns) (canLay_ints ns) hu
  have e : PyData.eqv (.tuple (ns.map PyData.int)) (.tuple (ns.map PyData.int)) = true := by simp only [PyData.eqv, ked_eqvAll, decide_true]
  rw [e] at x
  exact x
theorem att_hit {A : Around} {s : Shared} {h₀ : Heap} {L : Addr} {news : Led} {ka kb : List (Str × Value)} {r : Rt} (N : News h₀ L s.heap news) (a : AttK news ka r) (b : AttK news kb r) (hu : A.in1.units + 64 < cLine) {k : Str} {v : Value} (hv : valueAt ka k = some v) (hk : k ∈ names7) :
    ∃ y, valueAt kb k = some y ∧ SeqAt.EqAt A.in1 s v y true := by
  have opt : ∀ {x : Option Int} {vo vo' : Option Value}, OptI vo x → OptI vo' x → vo = some v → ∃ y, vo' = some y ∧ SeqAt.EqAt A.in1 s v y true := by
    intro x vo vo' h h' e
    cases h with
    | none => cases e
    | @some i t => cases h' with
      | @some _ t' =>
        cases e
        have z := SeqAt.EqAt.int_int (A := A.in1) (s := s) i t i t'
        rw [beq_self_eq_true] at z
        exact ⟨_, rfl, z⟩
  simp only [names7, List.mem_cons, List.mem_nil_iff, or_false] at hk
  rcases hk with rfl | rfl | rfl | rfl | rfl | rfl | rfl
  · exact opt a.org b.org hv
  · have ap := a.path
    have bp := b.path
    rw [hv] at ap
    generalize valueAt kb (Str.ofString "as_path") = y at bp
    cases ap with
    | mk ap => cases bp with
      | mk bp => exact ⟨_, rfl, eq_path N ap bp rfl hu⟩
  · exact opt a.med b.med hv
  · exact opt a.lp b.lp hv
  · exact opt a.tag b.tag hv
  · exact opt a.nh b.nh hv
  · have ac := a.com
    have bc := b.com
    rw [hv] at ac
    generalize valueAt kb (Str.ofString "communities") = y at bc
    generalize r.com = ns at ac bc
    cases ac with
    | some h hi hne => cases bc with
      | none => exact absurd rfl hne
      | some h' hi' _ => exact ⟨_, rfl, eq_tup_ints N h h' hi hi' hu⟩
theorem hits_all {A : Around} {s : Shared} {kb : List (Str × Value)} : ∀ {ka : List (Str × Value)}, (∀ p ∈ ka, ∃ y, valueAt kb p.1 = some y ∧ SeqAt.EqAt A s p.2 y true) → KeqHits A s kb ka true
  | [], _ => .nil
  | p :: r, h => by
    obtain ⟨y, h1, h2⟩ := h p List.mem_cons_self
    exact .hit h1 h2 (hits_all fun q hq => h q (List.mem_cons_of_mem _ hq))
theorem ne_att {w : World} {A : Around} {E : Value → Shared → Prop} {s : Shared} {h₀ : Heap} {L d1 d2 : Addr} {news : Led} {r : Rt} {Q : Value → Shared → Prop} (N : News h₀ L s.heap news) (a : AttIs w news d1 r) (b : AttIs w news d2 r) (hu : A.units + 100 < cLine) (hu1 : A.in1.units + 64 < cLine)
    (h : Q (.bool false) s) : wpAny (model Challenge.rw_sj0179_01.row.prog w) A (compareOp .NotEq (.ref d1) (.ref d2)) Q E s := by
  obtain ⟨m1, hd1, lo1, k1⟩ := a
  rename_i o1 kv1
  obtain ⟨m2, hd2, lo2, k2⟩ := b
  rename_i o2 kv2
  have hit : ∀ {ka kb : List (Str × Value)} {o : Obj}, o.IsDictOf (PySem.strKind Challenge.rw_sj0179_01.row.prog w) ka → AttK news ka r → AttK news kb r → ∀ p ∈ ka, ∃ y, valueAt kb p.1 = some y ∧ SeqAt.EqAt A.in1 s p.2 y true := fun hd ka kb p hp =>
    att_hit N ka kb hu1 (valueAt_of_mem (dict_nodup hd) hp) (ka.keys p hp)
  have sub : ∀ {ka kb : List (Str × Value)} {o : Obj}, o.IsDictOf (PySem.strKind Challenge.rw_sj0179_01.row.prog w) ka → AttK news ka r → AttK news kb r → ka.length ≤ kb.length := fun {ka kb o} hd ha hb => by
    have e := nodup_len (l' := kb.map (·.1)) (dict_nodup hd) fun k hk => by
      obtain ⟨p, hp, rfl⟩ := List.mem_map.mp hk
      obtain ⟨y, hy, _⟩ := hit hd ha hb p hp
      exact List.mem_map.mpr ⟨_, valueAt_mem hy, rfl⟩
    simpa using e
  have hlen : kv1.length = kv2.length := Nat.le_antisymm (sub hd1 k1 k2) (sub hd2 k2 k1)
  refine kne_pairs N m1 m2 hd1 hd2 lo1 lo2 hlen (by omega) (hits_all (hit hd1 k1 k2)) ?_
  exact h

def idxS (k : Str) : Nat := if k = Str.ofString "med" then 0 else if k = Str.ofString "local_pref" then 1 else if k = Str.ofString "tag" then 2 else 3
def idxV : Value → Nat
  | .str k _ => idxS k
  | _ => 3
def val4 (r : Rt) : List Int := [(getF 0 r).getD 0, (getF 1 r).getD 0, (getF 2 r).getD 0, (getF 3 r).getD 0]
section
variable {prog : Program} {w : World} {A : Around} {E : Value → Shared → Prop} {s : Shared} {h₀ : Heap} {L : Addr} {m : Str → Option Value} {env : PySem.Env}
theorem kwlawn49 : True := by
  k_with_none
  k_with "m call builtin:len" => (k_here; (with_reducible show wpAny _ _ (call (Value.builtin "len") [Value.ref _]) _ _ _); k_dflt (refine' len_led ?k1_z ?k2_z ?k3_z ?k4_z ?_; (case k1_z => k_asm); (case k2_z => k_mem); (case k3_z => with_reducible assumption); (case k4_z => omega)))
  k_with "m ite" => (k_closed; with_reducible (first | refine ite_tt ?_ | refine ite_ff ?_ | refine PySem.W.ite_neg (by decide) ?_ | refine PySem.W.ite_pos (by decide) ?_))
  k_with "m subscriptTail" => (k_here; (with_reducible show wpAny _ _ (subscriptTail _ _ (Value.ref _) (Value.int _ _)) _ _ _); k_dflt (first | (refine' sub_list ?N_z ?m_z ?a_z ?b_z ?x_z ?s_z ?_; (case N_z => k_asm); (case m_z => k_mem); (case a_z => decide); (case b_z => decide); (case x_z => rfl); (case s_z => with_unfolding_all rfl)) | (refine' sub_tup ?N_z ?m_z ?a_z ?b_z ?j_z ?x_z ?s_z ?_; (case N_z => k_asm); (case m_z => k_mem); (case a_z => decide); (case b_z => decide); (case j_z => rfl); (case x_z => rfl); (case s_z => with_unfolding_all rfl))))
  k_with "m subscriptTail Name Call ref int" => (k_here; (with_reducible show wpAny _ _ (subscriptTail _ _ (Value.ref _) (Value.int _ _)) _ _ _); k_dflt (first | (refine' sub_list_any ?N_z ?m_z ?a_z ?b_z ?z_z ?s_z ?_; (case N_z => k_asm); (case m_z => k_mem); (case a_z => omega); (case b_z => first | (simp only [List.length_cons, List.length_nil]; omega) | (simp only [List.length_append, List.length_cons, List.length_nil]; omega) | (simp only [List.length_append]; omega)); (case z_z => first | exact Nat.le_of_ble_eq_true rfl | (simp only [List.length_append, List.length_cons, List.length_nil]; omega) | (simp only [List.length_append]; omega)); (case s_z => with_unfolding_all rfl)) | (refine' sub_tup_any ?N_z ?m_z ?a_z ?b_z ?z_z ?s_z ?_; (case N_z => k_asm); (case m_z => k_mem); (case a_z => omega); (case b_z => first | (simp only [List.length_cons, List.length_nil]; omega) | (simp only [List.length_append, List.length_cons, List.length_nil]; omega) | (simp only [List.length_append]; omega)); (case z_z => first | exact Nat.le_of_ble_eq_true rfl | (simp only [List.length_append, List.length_cons, List.length_nil]; omega) | (simp only [List.length_append]; omega)); (case s_z => with_unfolding_all rfl))); intro _ _)
  k_with "m subscriptTail Tuple" => (k_here; (with_reducible show wpAny _ _ (subscriptTail _ _ (Value.ref _) (Value.int _ _)) _ _ _); k_dflt (first | (refine' sub_list_any ?N_z ?m_z ?a_z ?b_z ?z_z ?s_z ?_; (case N_z => k_asm); (case m_z => k_mem); (case a_z => omega); (case b_z => first | (simp only [List.length_cons, List.length_nil]; omega) | (simp only [List.length_append, List.length_cons, List.length_nil]; omega) | (simp only [List.length_append]; omega)); (case z_z => first | exact Nat.le_of_ble_eq_true rfl | (simp only [List.length_append, List.length_cons, List.length_nil]; omega) | (simp only [List.length_append]; omega)); (case s_z => with_unfolding_all rfl)) | (refine' sub_tup_any ?N_z ?m_z ?a_z ?b_z ?z_z ?s_z ?_; (case N_z => k_asm); (case m_z => k_mem); (case a_z => omega); (case b_z => first | (simp only [List.length_cons, List.length_nil]; omega) | (simp only [List.length_append, List.length_cons, List.length_nil]; omega) | (simp only [List.length_append]; omega)); (case z_z => first | exact Nat.le_of_ble_eq_true rfl | (simp only [List.length_append, List.length_cons, List.length_nil]; omega) | (simp only [List.length_append]; omega)); (case s_z => with_unfolding_all rfl))); intro _ _)
  k_with "m subscriptTail List" => (k_here; (with_reducible show wpAny _ _ (subscriptTail _ _ (Value.ref _) (Value.int _ _)) _ _ _); k_dflt (first | (refine' sub_list_any ?N_z ?m_z ?a_z ?b_z ?z_z ?s_z ?_; (case N_z => k_asm); (case m_z => k_mem); (case a_z => omega); (case b_z => first | (simp only [List.length_cons, List.length_nil]; omega) | (simp only [List.length_append, List.length_cons, List.length_nil]; omega) | (simp only [List.length_append]; omega)); (case z_z => first | exact Nat.le_of_ble_eq_true rfl | (simp only [List.length_append, List.length_cons, List.length_nil]; omega) | (simp only [List.length_append]; omega)); (case s_z => with_unfolding_all rfl)) | (refine' sub_tup_any ?N_z ?m_z ?a_z ?b_z ?z_z ?s_z ?_; (case N_z => k_asm); (case m_z => k_mem); (case a_z => omega); (case b_z => first | (simp only [List.length_cons, List.length_nil]; omega) | (simp only [List.length_append, List.length_cons, List.length_nil]; omega) | (simp only [List.length_append]; omega)); (case z_z => first | exact Nat.le_of_ble_eq_true rfl | (simp only [List.length_append, List.length_cons, List.length_nil]; omega) | (simp only [List.length_append]; omega)); (case s_z => with_unfolding_all rfl))); intro _ _)
  k_with "m execs cons" => (k_here; (with_reducible show wpAny _ _ _ _ _ (Shared.mk _ _ _ (_ + 1) _)); refine gen_toks ?_; intro (tk : Nat))
  trivial
theorem listcomp_names {elt iter : PySem.Expr} {x : Str} {px : Pos} {scope : Scope} {cl : List (Str × Addr)} {pos : Pos} {Q : Value → Shared → Prop} {t1 t2 t3 t4 : Tok} {r : Rt} {news : Led}
    (_F : Fr h₀ L s.heap m) (hh : A.handled = none) (hclos : closureFor scope env = pure cl) (hcell : ∀ y ∈ scope.names, y.2 ≠ .cell) (hkind : scope.kind = .function)
    (hnames : ∀ y ∈ scope.names, y.2 = .local → scope.names.lookup y.1 = some .local) (hx : scope.names.lookup x = some .local)
    (hs : ∀ x, foldedSetIterable iter env x = pure x)
    (h : wpAny (model prog w) A (eval iter env) (fun xv s₁ => ∃ l, xv = .ref l ∧ s₁.heap.IsTuple l (names4 t1 t2 t3 t4).toArray ∧ Fr h₀ L s₁.heap m ∧ News h₀ L s₁.heap news ∧
      (∀ C i tj s₂ m₂ E', i < 4 → s₂.heap.Ns (compEnvC scope cl C env).locals m₂ → m₂ x = some (.str (keyN i) tj) → (∀ b o, s₁.heap.get? b = some o → s₂.heap.get? b = some o) →
        wpAny (model prog w) A (eval elt (compEnvC scope cl C env)) (fun y s₃ => (∃ t', y = .int ((getF i r).getD 0) t') ∧ Keeps s₂ s₃) E' s₂) ∧
      (∀ D vs n' h' tk, Fr h₀ L h' m → News h₀ L h' ((D, PySem.W.listOf vs.toArray n') :: news) → IntsAre vs (val4 r) → Q (.ref D) { s₁ with heap := h', toks := tk })) E s) :
    wpAny (model prog w) A (eval (.ListComp elt [⟨.Name x px, iter, [], 0⟩] scope pos) env) Q E s := by
  clear _F
  rw [eval_ListComp]
  refine wpAny_comprehension_free (use := none) rfl hs hclos hkind hnames (wpAny_mono h (fun xv s₁ h₁ => ?_) fun _ _ e => e)
  obtain ⟨l, rfl, hl, F, N, hitem, hQ⟩ := h₁
  have hlt : @LT.lt Nat _ l s₁.heap.objs.size := by obtain ⟨_, e, _⟩ := hl; exact Heap.lt_size e
  refine wpAny_pyIter_tuple hl ?_
  have up : ∀ (h' : Heap), (∀ b o', b ∉ [s₁.heap.objs.size] → (s₁.heap.push { cls := .type "tuple_iterator", data := .fields #[.ref l, .int 0 0] }).get? b = some o' → h'.get? b = some o') → ∀ b o', s₁.heap.get? b = some o' → h'.get? b = some o' :=
    fun h' hk b o' e => hk b o' (not_iter_of_old e) (Heap.get?_push_of_some _ e)
  refine comp_block_walkC (RR := fun acc C => compPost (model prog w) A E none Q acc C) (Walks.tuple hh s₁.heap.objs.size l (Nat.ne_of_lt hlt) (names4 t1 t2 t3 t4).toArray) (by rw [List.size_toArray, sizeLine_eq]; exact Nat.le_of_ble_eq_true rfl) (fun _ => true) (fun v y => ∃ t', y = .int ((getF (idxV v) r).getD 0) t') hcell hkind hx
    ⟨⟨_, Heap.get?_push_size _ rfl, rfl, rfl⟩, hl.at fun o e => Heap.get?_push_of_some _ e⟩ ?_ ⟨?_, ?_⟩ ?_
  · intro b hb
    show b < (s₁.heap.push _).objs.size
    rw [Heap.size_push]
    rcases List.mem_cons.mp hb with rfl | hb
    · exact Nat.lt_succ_self _
    · rw [List.mem_singleton.mp hb]; exact Nat.lt_succ_of_lt hlt
  · intro C i v s₃ m₃ E' _ hP hn hm hk _
    exact wpAny_pure ⟨rfl, _, _, rfl, fun _ _ e => e⟩
  · intro C i v s₃ m₃ E' _ hP _ hn hm hk _
    have hP' : (names4 t1 t2 t3 t4)[i]? = some v := by simpa using hP
    have hi4 := names4_lt hP'
    obtain ⟨tj, rfl⟩ := names4_at hP'
    have hid : idxV (.str (keyN i) tj) = i := by
      match i, hi4 with
      | 0, _ => exact (by decide +kernel : idxS (keyN 0) = 0)
      | 1, _ => exact (by decide +kernel : idxS (keyN 1) = 1)
      | 2, _ => exact (by decide +kernel : idxS (keyN 2) = 2)
      | 3, _ => exact (by decide +kernel : idxS (keyN 3) = 3)
    rw [hid]
    exact hitem C i tj s₃ m₃ E' hi4 hn hm (up _ hk)
  · intro D C h' tk m' ys vs' hnew hC hDC hnC hlD hplD hlen hP hF hk
    have e' : vs' = names4 t1 t2 t3 t4 := by simpa using walked_is hlen hP
    subst e'
    refine ⟨m', hnC, fun h₃ hs₃ => ?_⟩
    obtain ⟨n', hn'⟩ := hplD.extBut hs₃.extBut hDC
    have keep : ∀ b o, s₁.heap.get? b = some o → h₃.get? b = some o := fun b o e =>
      hs₃.extBut b o (by rintro rfl; rw [Heap.get?_push_of_some _ e] at hC; cases hC) (up h' hk b o e)
    have hne : ∀ b o, s₁.heap.get? b = some o → b ≠ D := fun b o e z => by rw [z] at e; rw [Heap.get?_push_of_some _ e] at hnew; cases hnew
    have hints : IntsAre ys.toList (val4 r) := by
      have hf : (names4 t1 t2 t3 t4).filter (fun _ => true) = names4 t1 t2 t3 t4 := rfl
      rw [hf] at hF
      generalize ys.toList = yl at hF
      cases hF with | cons a0 hF => cases hF with | cons a1 hF => cases hF with | cons a2 hF => cases hF with | cons a3 hF => cases hF with | nil =>
      obtain ⟨u0, rfl⟩ := a0
      obtain ⟨u1, rfl⟩ := a1
      obtain ⟨u2, rfl⟩ := a2
      obtain ⟨u3, rfl⟩ := a3
      exact .cons _ _ (.cons _ _ (.cons _ _ (.cons _ _ .nil)))
    refine hQ D ys.toList n' h₃ tk (F.keeps keep) (fun q hq => ?_) hints
    rcases List.mem_cons.mp hq with rfl | hq
    · refine ⟨by rw [Array.toArray_toList]; exact hn', ?_, ?_⟩
      · obtain ⟨o, _, _, ho, _⟩ := F.ns
        exact fun z => hne L _ ho z.symm
      · cases e : h₀.get? D with
        | none => rfl
        | some o' => exact absurd rfl (hne D _ (F.keep _ _ e))
    · exact ⟨keep _ _ (N q hq).1, (N q hq).2⟩
end

section
variable {prog : Program} {w : World} {A : Around} {E : Value → Shared → Prop} {s : Shared} {h₀ : Heap} {L : Addr} {m : Str → Option Value} {news : Led}
theorem kwslice250 : True := by
  k_with_none
  k_with "m call builtin:len" => (k_here; (with_reducible show wpAny _ _ (call (Value.builtin "len") [Value.ref _]) _ _ _); k_dflt (refine' len_led ?k1_z ?k2_z ?k3_z ?k4_z ?_; (case k1_z => k_asm); (case k2_z => k_mem); (case k3_z => with_reducible assumption); (case k4_z => omega)))
  k_with "m ite" => (k_closed; with_reducible (first | refine ite_tt ?_ | refine ite_ff ?_ | refine PySem.W.ite_neg (by decide) ?_ | refine PySem.W.ite_pos (by decide) ?_))
  k_with "m subscriptTail" => (k_here; (with_reducible show wpAny _ _ (subscriptTail _ _ (Value.ref _) (Value.int _ _)) _ _ _); k_dflt (first | (refine' sub_list ?N_z ?m_z ?a_z ?b_z ?x_z ?s_z ?_; (case N_z => k_asm); (case m_z => k_mem); (case a_z => decide); (case b_z => decide); (case x_z => rfl); (case s_z => with_unfolding_all rfl)) | (refine' sub_tup ?N_z ?m_z ?a_z ?b_z ?j_z ?x_z ?s_z ?_; (case N_z => k_asm); (case m_z => k_mem); (case a_z => decide); (case b_z => decide); (case j_z => rfl); (case x_z => rfl); (case s_z => with_unfolding_all rfl))))
  k_with "m subscriptTail Name Call ref int" => (k_here; (with_reducible show wpAny _ _ (subscriptTail _ _ (Value.ref _) (Value.int _ _)) _ _ _); k_dflt (first | (refine' sub_list_any ?N_z ?m_z ?a_z ?b_z ?z_z ?s_z ?_; (case N_z => k_asm); (case m_z => k_mem); (case a_z => omega); (case b_z => first | (simp only [List.length_cons, List.length_nil]; omega) | (simp only [List.length_append, List.length_cons, List.length_nil]; omega) | (simp only [List.length_append]; omega)); (case z_z => first | exact Nat.le_of_ble_eq_true rfl | (simp only [List.length_append, List.length_cons, List.length_nil]; omega) | (simp only [List.length_append]; omega)); (case s_z => with_unfolding_all rfl)) | (refine' sub_tup_any ?N_z ?m_z ?a_z ?b_z ?z_z ?s_z ?_; (case N_z => k_asm); (case m_z => k_mem); (case a_z => omega); (case b_z => first | (simp only [List.length_cons, List.length_nil]; omega) | (simp only [List.length_append, List.length_cons, List.length_nil]; omega) | (simp only [List.length_append]; omega)); (case z_z => first | exact Nat.le_of_ble_eq_true rfl | (simp only [List.length_append, List.length_cons, List.length_nil]; omega) | (simp only [List.length_append]; omega)); (case s_z => with_unfolding_all rfl))); intro _ _)
  k_with "m subscriptTail Tuple" => (k_here; (with_reducible show wpAny _ _ (subscriptTail _ _ (Value.ref _) (Value.int _ _)) _ _ _); k_dflt (first | (refine' sub_list_any ?N_z ?m_z ?a_z ?b_z ?z_z ?s_z ?_; (case N_z => k_asm); (case m_z => k_mem); (case a_z => omega); (case b_z => first | (simp only [List.length_cons, List.length_nil]; omega) | (simp only [List.length_append, List.length_cons, List.length_nil]; omega) | (simp only [List.length_append]; omega)); (case z_z => first | exact Nat.le_of_ble_eq_true rfl | (simp only [List.length_append, List.length_cons, List.length_nil]; omega) | (simp only [List.length_append]; omega)); (case s_z => with_unfolding_all rfl)) | (refine' sub_tup_any ?N_z ?m_z ?a_z ?b_z ?z_z ?s_z ?_; (case N_z => k_asm); (case m_z => k_mem); (case a_z => omega); (case b_z => first | (simp only [List.length_cons, List.length_nil]; omega) | (simp only [List.length_append, List.length_cons, List.length_nil]; omega) | (simp only [List.length_append]; omega)); (case z_z => first | exact Nat.le_of_ble_eq_true rfl | (simp only [List.length_append, List.length_cons, List.length_nil]; omega) | (simp only [List.length_append]; omega)); (case s_z => with_unfolding_all rfl))); intro _ _)
  k_with "m subscriptTail List" => (k_here; (with_reducible show wpAny _ _ (subscriptTail _ _ (Value.ref _) (Value.int _ _)) _ _ _); k_dflt (first | (refine' sub_list_any ?N_z ?m_z ?a_z ?b_z ?z_z ?s_z ?_; (case N_z => k_asm); (case m_z => k_mem); (case a_z => omega); (case b_z => first | (simp only [List.length_cons, List.length_nil]; omega) | (simp only [List.length_append, List.length_cons, List.length_nil]; omega) | (simp only [List.length_append]; omega)); (case z_z => first | exact Nat.le_of_ble_eq_true rfl | (simp only [List.length_append, List.length_cons, List.length_nil]; omega) | (simp only [List.length_append]; omega)); (case s_z => with_unfolding_all rfl)) | (refine' sub_tup_any ?N_z ?m_z ?a_z ?b_z ?z_z ?s_z ?_; (case N_z => k_asm); (case m_z => k_mem); (case a_z => omega); (case b_z => first | (simp only [List.length_cons, List.length_nil]; omega) | (simp only [List.length_append, List.length_cons, List.length_nil]; omega) | (simp only [List.length_append]; omega)); (case z_z => first | exact Nat.le_of_ble_eq_true rfl | (simp only [List.length_append, List.length_cons, List.length_nil]; omega) | (simp only [List.length_append]; omega)); (case s_z => with_unfolding_all rfl))); intro _ _)
  k_with "m execs cons" => (k_here; (with_reducible show wpAny _ _ _ _ _ (Shared.mk _ _ _ (_ + 1) _)); refine gen_toks ?_; intro (tk : Nat))
  trivial
theorem getItem_tuple_all {t sl : Addr} {items : Array Value} {u : Tok} {Q : Value → Shared → Prop} (ht : IsTup s.heap t items) (hs : s.heap.IsSliceOf sl (.int 0 u) .none .none) (h : Q (.ref t) s) :
    wpAny (model prog w) A (getItem (.ref t) (.ref sl)) Q E s := by
  obtain ⟨os, hos, hcs, hds⟩ := id hs
  have hTs : s.TypeIs (.ref sl) "slice" := ⟨os, hos, hcs⟩
  unfold getItem
  try with_reducible refine wpAny_holding ?_
  first | refine wpAny_bind (wpAny_pure ?_) | skip
  refine wpAny_bind (wpAny_sequenceKey ht.typeIs (by decide) ?_)
  refine wpAny_bind (wpAny_callSpecial?_slot (name := Str.ofString "__getitem__") ht.typeIs slot_tuple_getitem
    (wpAny_call_entry slot_tuple_getitem ht.typeIs entry_tuple_getitem ?_ (args_tuple_getitem _ _)))
  show wpAny _ _ (Builtin.Tuple.tupleItemsOf (.ref t) >>= _) _ _ s
  refine wpAny_bind (tupleItemsOf_ ht ?_)
  refine wpAny_bind (wpAny_typeOf hTs ?_)
  rw [if_pos (by decide)]
  refine wpAny_bind (sliceApplied_from (a := 0) hs (Nat.zero_le _) ?_)
  show wpAny _ _ (if (((0 : Nat) : Int) == 0 && (1 : Int) == 1 && (items.size - 0) == items.size) = true then _ else _) _ _ s
  rw [if_pos (by simp)]
  unfold Builtin.Tuple.tupleIsExact
  refine wpAny_bind (wpAny_bind (wpAny_typeOf ht.typeIs (wpAny_pure ?_)))
  rw [if_pos (by decide)]
  exact wpAny_bind (wpAny_rule (wpAny_pure ⟨_, rfl, wpAny_pure h⟩))
theorem slice_two {value slice : PySem.Expr} {t : Addr} {v1 v2 : Value} {x : Int} {u : Tok} {Q : Value → Shared → Prop}
    (F : Fr h₀ L s.heap m) (N : News h₀ L s.heap news) (ht : (t, tupO [v1, v2]) ∈ news) (h0 : 0 ≤ x) (h2 : x < 2)
    (h : ∀ r tl h', Fr h₀ L h' m → News h₀ L h' (tl ++ news) → (∀ q ∈ tl, ∀ p ∈ news, @LT.lt Nat _ p.1 q.1) → ((x = 0 ∧ r = t) ∨ (x = 1 ∧ (r, tupO [v2]) ∈ tl)) → Q (.ref r) { s with heap := h' })
    (hs : subscripted slice false (.ref t) (.ref s.heap.objs.size) = operate [.ref s.heap.objs.size, .ref t] (getItem (.ref t) (.ref s.heap.objs.size)))
    (hg : ∀ r, letTemporaryGo value (.ref t) r = pure ()) :
    wpAny (model prog w) A (subscriptTail value slice (.ref t) (.ref s.heap.objs.size)) Q E { s with heap := s.heap.push { cls := .type "slice", data := .fields #[.int x u, .none, .none] } } := by
  have ht1 : IsTup s.heap t [v1, v2].toArray := News.isTup N ht
  have ht' : IsTup (s.heap.push { cls := .type "slice", data := .fields #[.int x u, .none, .none] }) t [v1, v2].toArray := ht1.keeps fun _ _ e => Heap.get?_push_of_some _ e
  rcases (show x = 0 ∨ x = 1 by omega) with rfl | rfl
  · refine subscriptTail_ops (s := { s with heap := s.heap.push { cls := .type "slice", data := .fields #[.int 0 u, .none, .none] } }) ht'.typeIs slot_tuple_getitem.lookup
      (getItem_tuple_all ht' (Heap.IsSliceOf.new ..) ?_) hs hg
    exact h t [] _ (F.push _) (N.grown fun _ _ e => Heap.get?_push_of_some _ e) (fun _ h => absurd h List.not_mem_nil) (.inl ⟨rfl, rfl⟩)
  · refine slice_tuple_from (a := 1) F N ht1 (Nat.le_refl _) (Nat.le_of_ble_eq_true rfl) (fun h' F' N' => ?_) hs hg (by rw [sizeLine_eq]; exact Nat.le_of_ble_eq_true rfl)
    exact h _ [(s.heap.objs.size + 1, tupO [v2])] h' F' N' (fun q hq p hp => by rw [List.mem_singleton.mp hq]; exact Nat.lt_succ_of_lt (Heap.lt_size (N p hp).1)) (.inr ⟨rfl, List.mem_cons_self⟩)
end
theorem kdn_led {prog : Program} {w : World} {s : Shared} {h₀ : Heap} {L d : Addr} {m : Str → Option Value} {full rest : Led} {o : Obj} {vs : List (Value × Value)} {Q : Value → Shared → Prop}
    (F : Fr h₀ L s.heap m) (N : News h₀ L s.heap full) (U : Pull (d, o) full rest) (hne : ∀ p ∈ rest, p.1 ≠ d) (hd : o.IsDictOf (PySem.strKind prog w) []) (hk : allStrKeys vs = true) (hn : ((strPairs vs).map (·.1)).Nodup)
    (h : ∀ h' o', Fr h₀ L h' m → News h₀ L h' ((d, o') :: rest) → o'.IsDictOf (PySem.strKind prog w) (strPairs vs) → Q (.ref d) { s with heap := h', toks := s.toks + vs.length }) : KdnMade prog w (PySem.strKind prog w) d Q vs s :=
  kdn_made_str F (newsPull N U) (UpdF.head hne) hd hk hn fun h' o' F' N' x => h h' o' F' N' x
theorem val2 {a b j : Str} {v u : Value} : valueAt [(a, v), (b, u)] j = if a = j then some v else if b = j then some u else none := by
  unfold valueAt
  by_cases h1 : a = j
  · simp [h1]
  · by_cases h2 : b = j
    · simp [h1, h2]
    · simp [h1, h2]
theorem base_att {N : Led} {x : Int} {t : Tok} {p : Addr} {two : Bool} (hp : PathIs N p two) : AttK N [(Str.ofString "origin", .int x t), (Str.ofString "as_path", .ref p)] ⟨x, two, none, none, none, none, []⟩ := by
  refine ⟨fun q hq => ?_, ?_, ?_, ?_, ?_, ?_, ?_, ?_⟩
  · rcases List.mem_cons.mp hq with rfl | hq
    · exact n_org
    · rw [List.mem_singleton.mp hq]; exact n_path
  · rw [val2, if_pos rfl]; exact .some
  · rw [val2, if_neg (by decide +kernel), if_pos rfl]; exact .mk hp
  · rw [val2, if_neg (by decide +kernel), if_neg (by decide +kernel)]; exact .none
  · rw [val2, if_neg (by decide +kernel), if_neg (by decide +kernel)]; exact .none
  · rw [val2, if_neg (by decide +kernel), if_neg (by decide +kernel)]; exact .none
  · rw [val2, if_neg (by decide +kernel), if_neg (by decide +kernel)]; exact .none
  · rw [val2, if_neg (by decide +kernel), if_neg (by decide +kernel)]; exact .none

def FlJ (w : World) (g : Nat → Rt) (D : Addr) (R N₀ : Led) (m₀ : Str → Option Value) (i : Nat) (m : Str → Option Value) (news : Led) : Prop :=
  ∃ nv oD kvs, m = (fun y => if y = Str.ofString "name" then nv else m₀ y) ∧ news = (D, oD) :: R ∧ oD.IsDictOf (PySem.strKind Challenge.rw_sj0179_01.row.prog w) kvs ∧ AttK N₀ kvs (g i)
theorem kwlawj51 : True := by
  k_with_none
  k_with "m call builtin:len" => (k_here; (with_reducible show wpAny _ _ (call (Value.builtin "len") [Value.ref _]) _ _ _); k_dflt (refine' len_led ?k1_z ?k2_z ?k3_z ?k4_z ?_; (case k1_z => k_asm); (case k2_z => k_mem); (case k3_z => with_reducible assumption); (case k4_z => omega)))
  k_with "m ite" => (k_closed; with_reducible (first | refine ite_tt ?_ | refine ite_ff ?_ | refine PySem.W.ite_neg (by decide) ?_ | refine PySem.W.ite_pos (by decide) ?_))
  k_with "m subscriptTail" => (k_here; (with_reducible show wpAny _ _ (subscriptTail _ _ (Value.ref _) (Value.int _ _)) _ _ _); k_dflt (first | (refine' sub_list ?N_z ?m_z ?a_z ?b_z ?x_z ?s_z ?_; (case N_z => k_asm); (case m_z => k_mem); (case a_z => decide); (case b_z => decide); (case x_z => rfl); (case s_z => with_unfolding_all rfl)) | (refine' sub_tup ?N_z ?m_z ?a_z ?b_z ?j_z ?x_z ?s_z ?_; (case N_z => k_asm); (case m_z => k_mem); (case a_z => decide); (case b_z => decide); (case j_z => rfl); (case x_z => rfl); (case s_z => with_unfolding_all rfl))))
  k_with "m subscriptTail Name Call ref int" => (k_here; (with_reducible show wpAny _ _ (subscriptTail _ _ (Value.ref _) (Value.int _ _)) _ _ _); k_dflt (first | (refine' sub_list_any ?N_z ?m_z ?a_z ?b_z ?z_z ?s_z ?_; (case N_z => k_asm); (case m_z => k_mem); (case a_z => omega); (case b_z => first | (simp only [List.length_cons, List.length_nil]; omega) | (simp only [List.length_append, List.length_cons, List.length_nil]; omega) | (simp only [List.length_append]; omega)); (case z_z => first | exact Nat.le_of_ble_eq_true rfl | (simp only [List.length_append, List.length_cons, List.length_nil]; omega) | (simp only [List.length_append]; omega)); (case s_z => with_unfolding_all rfl)) | (refine' sub_tup_any ?N_z ?m_z ?a_z ?b_z ?z_z ?s_z ?_; (case N_z => k_asm); (case m_z => k_mem); (case a_z => omega); (case b_z => first | (simp only [List.length_cons, List.length_nil]; omega) | (simp only [List.length_append, List.length_cons, List.length_nil]; omega) | (simp only [List.length_append]; omega)); (case z_z => first | exact Nat.le_of_ble_eq_true rfl | (simp only [List.length_append, List.length_cons, List.length_nil]; omega) | (simp only [List.length_append]; omega)); (case s_z => with_unfolding_all rfl))); intro _ _)
  k_with "m subscriptTail Tuple" => (k_here; (with_reducible show wpAny _ _ (subscriptTail _ _ (Value.ref _) (Value.int _ _)) _ _ _); k_dflt (first | (refine' sub_list_any ?N_z ?m_z ?a_z ?b_z ?z_z ?s_z ?_; (case N_z => k_asm); (case m_z => k_mem); (case a_z => omega); (case b_z => first | (simp only [List.length_cons, List.length_nil]; omega) | (simp only [List.length_append, List.length_cons, List.length_nil]; omega) | (simp only [List.length_append]; omega)); (case z_z => first | exact Nat.le_of_ble_eq_true rfl | (simp only [List.length_append, List.length_cons, List.length_nil]; omega) | (simp only [List.length_append]; omega)); (case s_z => with_unfolding_all rfl)) | (refine' sub_tup_any ?N_z ?m_z ?a_z ?b_z ?z_z ?s_z ?_; (case N_z => k_asm); (case m_z => k_mem); (case a_z => omega); (case b_z => first | (simp only [List.length_cons, List.length_nil]; omega) | (simp only [List.length_append, List.length_cons, List.length_nil]; omega) | (simp only [List.length_append]; omega)); (case z_z => first | exact Nat.le_of_ble_eq_true rfl | (simp only [List.length_append, List.length_cons, List.length_nil]; omega) | (simp only [List.length_append]; omega)); (case s_z => with_unfolding_all rfl))); intro _ _)
  k_with "m subscriptTail List" => (k_here; (with_reducible show wpAny _ _ (subscriptTail _ _ (Value.ref _) (Value.int _ _)) _ _ _); k_dflt (first | (refine' sub_list_any ?N_z ?m_z ?a_z ?b_z ?z_z ?s_z ?_; (case N_z => k_asm); (case m_z => k_mem); (case a_z => omega); (case b_z => first | (simp only [List.length_cons, List.length_nil]; omega) | (simp only [List.length_append, List.length_cons, List.length_nil]; omega) | (simp only [List.length_append]; omega)); (case z_z => first | exact Nat.le_of_ble_eq_true rfl | (simp only [List.length_append, List.length_cons, List.length_nil]; omega) | (simp only [List.length_append]; omega)); (case s_z => with_unfolding_all rfl)) | (refine' sub_tup_any ?N_z ?m_z ?a_z ?b_z ?z_z ?s_z ?_; (case N_z => k_asm); (case m_z => k_mem); (case a_z => omega); (case b_z => first | (simp only [List.length_cons, List.length_nil]; omega) | (simp only [List.length_append, List.length_cons, List.length_nil]; omega) | (simp only [List.length_append]; omega)); (case z_z => first | exact Nat.le_of_ble_eq_true rfl | (simp only [List.length_append, List.length_cons, List.length_nil]; omega) | (simp only [List.length_append]; omega)); (case s_z => with_unfolding_all rfl))); intro _ _)
  k_with "m execs cons" => (k_here; (with_reducible show wpAny _ _ _ _ _ (Shared.mk _ _ _ (_ + 1) _)); refine gen_toks ?_; intro (tk : Nat))
  trivial
theorem FlJ.start {w : World} {g : Nat → Rt} {D : Addr} {R N₀ : Led} {m₀ : Str → Option Value} {oD : Obj} {kvs : List (Str × Value)} (hd : oD.IsDictOf (PySem.strKind Challenge.rw_sj0179_01.row.prog w) kvs) (hk : AttK N₀ kvs (g 0)) :
    FlJ w g D R N₀ m₀ 0 m₀ ((D, oD) :: R) :=
  ⟨m₀ (Str.ofString "name"), oD, kvs, by
    funext y
    by_cases h : y = Str.ofString "name" <;> simp [h], rfl, hd, hk⟩
theorem FlJ.close {w : World} {g : Nat → Rt} {D : Addr} {R N₀ full : Led} {m₀ m' : Str → Option Value} {i : Nat} {h₀ h' : Heap} {L I : Addr} {io oD : Obj} {s₁ : Shared} {tk : Nat} {kvs : List (Str × Value)}
    (F : Fr h₀ L h' m') (N : News h₀ L h' full) (hsub : ∀ p ∈ (I, io) :: (D, oD) :: R, p ∈ full) (em : ∀ y, y ≠ Str.ofString "name" → m' y = m₀ y)
    (hD : D ≠ I) (hR : ∀ p ∈ R, p.1 ≠ I) (hd : oD.IsDictOf (PySem.strKind Challenge.rw_sj0179_01.row.prog w) kvs) (hk : AttK N₀ kvs (g (i + 1))) :
    UnrEnd h₀ L s₁ I io (FlJ w g D R N₀ m₀ (i + 1)) { s₁ with heap := h', toks := tk } := by
  have em' : m' = (fun y => if y = Str.ofString "name" then m' (Str.ofString "name") else m₀ y) := by
    funext y
    (repeat' split) <;> first | (rename_i h; rw [h]; done) | exact em y (by assumption)
  exact UnrEnd.intro F N _ hsub (List.forall_mem_cons.mpr ⟨hD, hR⟩) ⟨_, oD, kvs, em', rfl, hd, hk⟩
def plN (r : Rt) : Nat → Rt
  | 0 => r
  | i + 1 => putF i (plN r i) (some 900)
theorem plN_done {r : Rt} (h : r.com = []) : plN r 4 = plainR r := by
  obtain ⟨a, b, c, d, e, f, g⟩ := r
  simp only at h
  subst h
  rfl
theorem mk_base2 {w : World} {h₀ h : Heap} {L p sg r tt d : Addr} {full tl : Led} {o : Obj} {vs : List (Value × Value)} {x xx : Int} {t t1 t2 t3 : Tok} (_N : News h₀ L h full) (lo : (d == sysModules) = false)
    (hd : o.IsDictOf (PySem.strKind Challenge.rw_sj0179_01.row.prog w) (strPairs vs)) (hvs : strPairs vs = [(Str.ofString "origin", .int x t), (Str.ofString "as_path", .ref p)])
    (_h1 : (p, tupO [.ref sg]) ∈ full) (_h2 : (sg, tupO [.int 2 t1, .ref r]) ∈ full) (_h3 : (tt, tupO [.int 7 t2, .int 8 t3]) ∈ full) (hx : (xx = 0 ∧ r = tt) ∨ (xx = 1 ∧ (r, tupO [.int 8 t3]) ∈ tl)) :
    ∃ kvb two, o.IsDictOf (PySem.strKind Challenge.rw_sj0179_01.row.prog w) kvb ∧ kvb.length ≤ 7 ∧ AttIs w ((d, o) :: (p, tupO [.ref sg]) :: (sg, tupO [.int 2 t1, .ref r]) :: (tt, tupO [.int 7 t2, .int 8 t3]) :: tl) d ⟨x, two, none, none, none, none, []⟩ ∧
      AttK ((d, o) :: (p, tupO [.ref sg]) :: (sg, tupO [.int 2 t1, .ref r]) :: (tt, tupO [.int 7 t2, .int 8 t3]) :: tl) kvb ⟨x, two, none, none, none, none, []⟩ := by
  rw [hvs] at hd
  rcases hx with ⟨_, rfl⟩ | ⟨_, hm⟩
  · have k : AttK ((d, o) :: (p, tupO [.ref sg]) :: (sg, tupO [.int 2 t1, .ref r]) :: (r, tupO [.int 7 t2, .int 8 t3]) :: tl) _ ⟨x, true, none, none, none, none, []⟩ := base_att (t := t) (p := p) (.two (p := p) (sg := sg) (nm := r) (by k_mem) (by k_mem) (by k_mem))
    exact ⟨_, true, hd, att_len hd k, .mk List.mem_cons_self hd lo k, k⟩
  · have k : AttK ((d, o) :: (p, tupO [.ref sg]) :: (sg, tupO [.int 2 t1, .ref r]) :: (tt, tupO [.int 7 t2, .int 8 t3]) :: tl) _ ⟨x, false, none, none, none, none, []⟩ := base_att (t := t) (p := p) (.one (p := p) (sg := sg) (nm := r) (by k_mem) (by k_mem) (by k_mem))
    exact ⟨_, false, hd, att_len hd k, .mk List.mem_cons_self hd lo k, k⟩
theorem plN_att {N : Led} {kvs : List (Str × Value)} {r : Rt} (hc : r.com = []) (h : AttK N kvs (plN r 4)) : AttK N kvs (plainR r) := by rw [← plN_done hc]; exact h
theorem mk_facts {w : World} {d : Addr} {o : Obj} {full : Led} {vs : List (Value × Value)} {i : Int} {t t' : Tok} (_hm : (d, o) ∈ full) (lo : (d == sysModules) = false)
    (hd : o.IsDictOf (PySem.strKind Challenge.rw_sj0179_01.row.prog w) (strPairs vs)) (hvs : strPairs vs = [(Str.ofString "own_address", .int 9 t), (Str.ofString "peer_as", .int i t')]) : FactsIs w [(d, o)] d i := by
  rw [hvs] at hd
  exact .mk List.mem_cons_self hd lo (by rw [val2, if_pos rfl]) (by rw [val2, if_neg (by decide +kernel), if_pos rfl])
theorem pre_pick2 {h₀ h : Heap} {L : Addr} {full : Led} {v : Value} {a1 a2 a3 : Addr} {i1 i2 i3 : Int} {t1 t2 t3 u1 u2 u3 : Tok} (_N : News h₀ L h full) (hv : v ∈ [Value.ref a1, .ref a2, .ref a3])
    (m1 : (a1, tupO [.int i1 t1, .int 8 u1]) ∈ full) (m2 : (a2, tupO [.int i2 t2, .int 16 u2]) ∈ full) (m3 : (a3, tupO [.int i3 t3, .int 24 u3]) ∈ full) (h1 : i1 = 167772160) (h2 : i2 = 167837696) (h3 : i3 = 167772160) :
    ∃ pa k o, v = .ref pa ∧ PreIs [(pa, o)] pa k ∧ (pa, o) ∈ full ∧ (pa = a1 ∨ pa = a2 ∨ pa = a3) := by
  simp only [List.mem_cons, List.mem_nil_iff, or_false] at hv
  rcases hv with rfl | rfl | rfl
  · exact ⟨a1, 0, _, rfl, .p0 List.mem_cons_self h1, m1, .inl rfl⟩
  · exact ⟨a2, 1, _, rfl, .p1 List.mem_cons_self h2, m2, .inr (.inl rfl)⟩
  · exact ⟨a3, 2, _, rfl, .p2 List.mem_cons_self h3, m3, .inr (.inr rfl)⟩
theorem mk_facts2 {w : World} {h₀ h : Heap} {L d : Addr} {o : Obj} {full : Led} {vs : List (Value × Value)} {i : Int} {t t' : Tok} (_N : News h₀ L h full) (hd : o.IsDictOf (PySem.strKind Challenge.rw_sj0179_01.row.prog w) (strPairs vs)) (hm : (d, o) ∈ full) (lo : (d == sysModules) = false)
    (hvs : strPairs vs = [(Str.ofString "own_address", .int 9 t), (Str.ofString "peer_as", .int i t')]) : FactsIs w [(d, o)] d i ∧ (d, o) ∈ full := ⟨mk_facts hm lo hd hvs, hm⟩

theorem kwlawt52 : True := by
  k_with_none
  k_with "m call builtin:len" => (k_here; (with_reducible show wpAny _ _ (call (Value.builtin "len") [Value.ref _]) _ _ _); k_dflt (refine' len_led ?k1_z ?k2_z ?k3_z ?k4_z ?_; (case k1_z => k_asm); (case k2_z => k_mem); (case k3_z => with_reducible assumption); (case k4_z => omega)))
  k_with "m ite" => (k_closed; with_reducible (first | refine ite_tt ?_ | refine ite_ff ?_ | refine PySem.W.ite_neg (by decide) ?_ | refine PySem.W.ite_pos (by decide) ?_))
  k_with "m subscriptTail" => (k_here; (with_reducible show wpAny _ _ (subscriptTail _ _ (Value.ref _) (Value.int _ _)) _ _ _); k_dflt (first | (refine' sub_list ?N_z ?m_z ?a_z ?b_z ?x_z ?s_z ?_; (case N_z => k_asm); (case m_z => k_mem); (case a_z => decide); (case b_z => decide); (case x_z => rfl); (case s_z => with_unfolding_all rfl)) | (refine' sub_tup ?N_z ?m_z ?a_z ?b_z ?j_z ?x_z ?s_z ?_; (case N_z => k_asm); (case m_z => k_mem); (case a_z => decide); (case b_z => decide); (case j_z => rfl); (case x_z => rfl); (case s_z => with_unfolding_all rfl))))
  k_with "m subscriptTail Name Call ref int" => (k_here; (with_reducible show wpAny _ _ (subscriptTail _ _ (Value.ref _) (Value.int _ _)) _ _ _); k_dflt (first | (refine' sub_list_any ?N_z ?m_z ?a_z ?b_z ?z_z ?s_z ?_; (case N_z => k_asm); (case m_z => k_mem); (case a_z => omega); (case b_z => first | (simp only [List.length_cons, List.length_nil]; omega) | (simp only [List.length_append, List.length_cons, List.length_nil]; omega) | (simp only [List.length_append]; omega)); (case z_z => first | exact Nat.le_of_ble_eq_true rfl | (simp only [List.length_append, List.length_cons, List.length_nil]; omega) | (simp only [List.length_append]; omega)); (case s_z => with_unfolding_all rfl)) | (refine' sub_tup_any ?N_z ?m_z ?a_z ?b_z ?z_z ?s_z ?_; (case N_z => k_asm); (case m_z => k_mem); (case a_z => omega); (case b_z => first | (simp only [List.length_cons, List.length_nil]; omega) | (simp only [List.length_append, List.length_cons, List.length_nil]; omega) | (simp only [List.length_append]; omega)); (case z_z => first | exact Nat.le_of_ble_eq_true rfl | (simp only [List.length_append, List.length_cons, List.length_nil]; omega) | (simp only [List.length_append]; omega)); (case s_z => with_unfolding_all rfl))); intro _ _)
  k_with "m subscriptTail Tuple" => (k_here; (with_reducible show wpAny _ _ (subscriptTail _ _ (Value.ref _) (Value.int _ _)) _ _ _); k_dflt (first | (refine' sub_list_any ?N_z ?m_z ?a_z ?b_z ?z_z ?s_z ?_; (case N_z => k_asm); (case m_z => k_mem); (case a_z => omega); (case b_z => first | (simp only [List.length_cons, List.length_nil]; omega) | (simp only [List.length_append, List.length_cons, List.length_nil]; omega) | (simp only [List.length_append]; omega)); (case z_z => first | exact Nat.le_of_ble_eq_true rfl | (simp only [List.length_append, List.length_cons, List.length_nil]; omega) | (simp only [List.length_append]; omega)); (case s_z => with_unfolding_all rfl)) | (refine' sub_tup_any ?N_z ?m_z ?a_z ?b_z ?z_z ?s_z ?_; (case N_z => k_asm); (case m_z => k_mem); (case a_z => omega); (case b_z => first | (simp only [List.length_cons, List.length_nil]; omega) | (simp only [List.length_append, List.length_cons, List.length_nil]; omega) | (simp only [List.length_append]; omega)); (case z_z => first | exact Nat.le_of_ble_eq_true rfl | (simp only [List.length_append, List.length_cons, List.length_nil]; omega) | (simp only [List.length_append]; omega)); (case s_z => with_unfolding_all rfl))); intro _ _)
  k_with "m subscriptTail List" => (k_here; (with_reducible show wpAny _ _ (subscriptTail _ _ (Value.ref _) (Value.int _ _)) _ _ _); k_dflt (first | (refine' sub_list_any ?N_z ?m_z ?a_z ?b_z ?z_z ?s_z ?_; (case N_z => k_asm); (case m_z => k_mem); (case a_z => omega); (case b_z => first | (simp only [List.length_cons, List.length_nil]; omega) | (simp only [List.length_append, List.length_cons, List.length_nil]; omega) | (simp only [List.length_append]; omega)); (case z_z => first | exact Nat.le_of_ble_eq_true rfl | (simp only [List.length_append, List.length_cons, List.length_nil]; omega) | (simp only [List.length_append]; omega)); (case s_z => with_unfolding_all rfl)) | (refine' sub_tup_any ?N_z ?m_z ?a_z ?b_z ?z_z ?s_z ?_; (case N_z => k_asm); (case m_z => k_mem); (case a_z => omega); (case b_z => first | (simp only [List.length_cons, List.length_nil]; omega) | (simp only [List.length_append, List.length_cons, List.length_nil]; omega) | (simp only [List.length_append]; omega)); (case z_z => first | exact Nat.le_of_ble_eq_true rfl | (simp only [List.length_append, List.length_cons, List.length_nil]; omega) | (simp only [List.length_append]; omega)); (case s_z => with_unfolding_all rfl))); intro _ _)
  k_with "m execs cons" => (k_here; (with_reducible show wpAny _ _ _ _ _ (Shared.mk _ _ _ (_ + 1) _)); refine gen_toks ?_; intro (tk : Nat))
  trivial
theorem repack {h₀ h : Heap} {L b c1 c2 : Addr} {ob oc1 oc2 : Obj} {tl S : Led} (N : News h₀ L h (tl ++ (b, ob) :: (c1, oc1) :: (c2, oc2) :: S)) (lt : ∀ q ∈ tl, ∀ p ∈ (b, ob) :: (c1, oc1) :: (c2, oc2) :: S, @LT.lt Nat _ p.1 q.1)
    (nb : ∀ q ∈ S, q.1 ≠ b) (n1 : ∀ q ∈ S, q.1 ≠ c1) (n2 : ∀ q ∈ S, q.1 ≠ c2) : News h₀ L h ((b, ob) :: (c1, oc1) :: (c2, oc2) :: (tl ++ S)) ∧ (∀ q ∈ tl ++ S, q.1 ≠ b) ∧ (∀ q ∈ tl ++ S, q.1 ≠ c1) ∧ ∀ q ∈ tl ++ S, q.1 ≠ c2 := by
  refine ⟨newsSub N fun q hq => ?_, fun q hq => ?_, fun q hq => ?_, fun q hq => ?_⟩
  · simp only [List.mem_cons, List.mem_append] at hq ⊢
    rcases hq with h | h | h | h | h
    · exact .inr (.inl h)
    · exact .inr (.inr (.inl h))
    · exact .inr (.inr (.inr (.inl h)))
    · exact .inl h
    · exact .inr (.inr (.inr (.inr h)))
  · exact (List.mem_append.mp hq).elim (fun h => Nat.ne_of_gt (lt q h (b, ob) List.mem_cons_self)) (nb q)
  · exact (List.mem_append.mp hq).elim (fun h => Nat.ne_of_gt (lt q h (c1, oc1) (List.mem_cons_of_mem _ List.mem_cons_self))) (n1 q)
  · exact (List.mem_append.mp hq).elim (fun h => Nat.ne_of_gt (lt q h (c2, oc2) (List.mem_cons_of_mem _ (List.mem_cons_of_mem _ List.mem_cons_self)))) (n2 q)
theorem full4_of {f : Rt → Rt} (hf : Shape f) (r : Rt) : Full4 (f (plainR r)) := ⟨fun i => match i with
  | 0 => hf.med.elim (fun h => ⟨3, h _⟩) fun h => ⟨900, h _⟩
  | 1 => hf.lp.elim (fun h => ⟨7, h _⟩) fun h => ⟨900, h _⟩
  | 2 => hf.tag.elim (fun h => ⟨5, h _⟩) fun h => ⟨900, h _⟩
  | _ + 3 => hf.nh.elim (fun h => ⟨9, h _⟩) fun h => ⟨900, h _⟩⟩
theorem same4 {f : Rt → Rt} (hf : Shape f) (r : Rt) : ∀ i, getF i (f (richR r)) = getF i (f (plainR r))
  | 0 => (alike hf r).1.symm
  | 1 => (alike hf r).2.1.symm
  | 2 => (alike hf r).2.2.1.symm
  | _ + 3 => (alike hf r).2.2.2.symm
theorem same_val4 {f : Rt → Rt} (hf : Shape f) (r : Rt) : val4 (f (plainR r)) = val4 (f (richR r)) := by simp only [val4, same4 hf r]
theorem plain_ok {r : Rt} : (plainR r).Ok := rfl
theorem rich_ok {r : Rt} : (richR r).Ok := rfl
def LtJ (b l : Addr) (n : Nat) (sp : Int) (R : Led) (m₀ : Str → Option Value) (i : Nat) (m : Str → Option Value) (news : Led) : Prop :=
  ∃ tv av kv ov sp' t', m = (fun y => if y = Str.ofString "turn" then tv else if y = Str.ofString "attrs" then av else if y = Str.ofString "kept" then kv else if y = Str.ofString "told" then ov else m₀ y) ∧ news = (b, boxO l n sp' t') :: R ∧ sp ≤ sp' ∧ sp' ≤ sp + 5 * (i : Int)
theorem LtJ.start {b l : Addr} {n : Nat} {sp : Int} {R : Led} {m₀ : Str → Option Value} {t : Tok} : LtJ b l n sp R m₀ 0 m₀ ((b, boxO l n sp t) :: R) :=
  ⟨m₀ (Str.ofString "turn"), m₀ (Str.ofString "attrs"), m₀ (Str.ofString "kept"), m₀ (Str.ofString "told"), sp, t, by
    funext y
    (repeat' split) <;> first | rfl | (rename_i h; rw [h]), rfl, by omega, by omega⟩
theorem LtJ.close {b l : Addr} {n : Nat} {sp sp' : Int} {R full : Led} {m₀ m' : Str → Option Value} {i : Nat} {h₀ h' : Heap} {L I : Addr} {io : Obj} {s₁ : Shared} {tk : Nat} {t : Tok}
    (F : Fr h₀ L h' m') (N : News h₀ L h' full) (hsub : ∀ p ∈ (I, io) :: (b, boxO l n sp' t) :: R, p ∈ full) (em : ∀ y, y ≠ Str.ofString "turn" → y ≠ Str.ofString "attrs" → y ≠ Str.ofString "kept" → y ≠ Str.ofString "told" → m' y = m₀ y)
    (hb : b ≠ I) (hR : ∀ p ∈ R, p.1 ≠ I) (h1 : sp ≤ sp') (h2 : sp' ≤ sp + 5 * ((i + 1 : Nat) : Int)) : UnrEnd h₀ L s₁ I io (LtJ b l n sp R m₀ (i + 1)) { s₁ with heap := h', toks := tk } := by
  have em' : m' = (fun y => if y = Str.ofString "turn" then m' (Str.ofString "turn") else if y = Str.ofString "attrs" then m' (Str.ofString "attrs") else if y = Str.ofString "kept" then m' (Str.ofString "kept") else if y = Str.ofString "told" then m' (Str.ofString "told") else m₀ y) := by
    funext y
    (repeat' split) <;> first | (rename_i h; rw [h]; done) | exact em y (by assumption) (by assumption) (by assumption) (by assumption)
  exact UnrEnd.intro F N _ hsub (List.forall_mem_cons.mpr ⟨hb, hR⟩) ⟨_, _, _, _, sp', t, em', rfl, h1, h2⟩
def TailP (w : World) : Prop := ∀ (pr : Arguments) (body : List Stmt) (sc : Scope), Program.theDef Challenge.pw_sj0179_01 (Str.ofString "law") = some (pr, body, sc) → ∀ (mean : ExcName → Option Value) (mg mb m0 : Str → Option Value) (base h₀ : Heap) (L fa b l d pa df : Addr) (ccd v : Value) (o1 o2 : Obj) (n n' kp : Nat) (sp x y : Int) (two cc : Bool) (t : Tok) (vs : List Value) (ns : List Int) (terms : List (List St)) (S : Led) (s : Shared)
    (Q : Flow → Shared → Prop) (E : Value → Shared → Prop),
  Below callerA base [] h₀ →
  Fr h₀ L s.heap (fun z => if z = Str.ofString "facts" then some (.ref df) else if z = Str.ofString "prefix" then some (.ref pa) else if z = Str.ofString "base" then some (.ref d) else if z = Str.ofString "policy" then some v else if z = Str.ofString "box" then some (.ref b) else m0 z) →
  (Mine.hd.heap_39 w.params).In h₀ → News h₀ L s.heap ((b, boxO l n sp t) :: (L + 1 + 1, o1) :: (L + 1, o2) :: S) → Top Mine.hd.view_39 (looseW Mine.hd.view_39 [Str.ofString "FIELDS", Str.ofString "ENDS"]) mean mg mb h₀ →
  o1.data = .cell none → o2.data = .cell none → IntsAre vs ns → ns.length ≤ 48 → (l, PySem.W.listOf vs.toArray n') ∈ S → PolIs S v terms cc → AttIs w S d ⟨x, two, none, none, none, none, []⟩ → PreIs S pa kp → FactsIs w S df y →
  (∀ q ∈ S, q.1 ≠ b) → (∀ q ∈ S, q.1 ≠ L + 1 + 1) → (∀ q ∈ S, q.1 ≠ L + 1) → @LT.lt Nat _ (L + 1 + 1) b → 0 ≤ sp → sp ≤ 800 → (∀ h tk m, Fr h₀ L h m → Q (.ret (.bool true)) { s with heap := h, toks := tk }) → PassesOwn (model Challenge.rw_sj0179_01.row.prog w) (callerA.deeper (envOfC (Str.ofString "law") sc L fa ccd)) (envOfC (Str.ofString "law") sc L fa ccd) E →
  wpAny (model Challenge.rw_sj0179_01.row.prog w) (callerA.deeper (envOfC (Str.ofString "law") sc L fa ccd)) (execs (body.drop 5) (envOfC (Str.ofString "law") sc L fa ccd)) Q E s
section
theorem kwlawt53 : True := by
  k_with_none
  k_with "m call builtin:len" => (k_here; (with_reducible show wpAny _ _ (call (Value.builtin "len") [Value.ref _]) _ _ _); k_dflt (refine' len_led ?k1_z ?k2_z ?k3_z ?k4_z ?_; (case k1_z => k_asm); (case k2_z => k_mem); (case k3_z => with_reducible assumption); (case k4_z => omega)))
  k_with "m ite" => (k_closed; with_reducible (first | refine ite_tt ?_ | refine ite_ff ?_ | refine PySem.W.ite_neg (by decide) ?_ | refine PySem.W.ite_pos (by decide) ?_))
  k_with "m subscriptTail" => (k_here; (with_reducible show wpAny _ _ (subscriptTail _ _ (Value.ref _) (Value.int _ _)) _ _ _); k_dflt (first | (refine' sub_list ?N_z ?m_z ?a_z ?b_z ?x_z ?s_z ?_; (case N_z => k_asm); (case m_z => k_mem); (case a_z => decide); (case b_z => decide); (case x_z => rfl); (case s_z => with_unfolding_all rfl)) | (refine' sub_tup ?N_z ?m_z ?a_z ?b_z ?j_z ?x_z ?s_z ?_; (case N_z => k_asm); (case m_z => k_mem); (case a_z => decide); (case b_z => decide); (case j_z => rfl); (case x_z => rfl); (case s_z => with_unfolding_all rfl))))
  k_with "m subscriptTail Name Call ref int" => (k_here; (with_reducible show wpAny _ _ (subscriptTail _ _ (Value.ref _) (Value.int _ _)) _ _ _); k_dflt (first | (refine' sub_list_any ?N_z ?m_z ?a_z ?b_z ?z_z ?s_z ?_; (case N_z => k_asm); (case m_z => k_mem); (case a_z => omega); (case b_z => first | (simp only [List.length_cons, List.length_nil]; omega) | (simp only [List.length_append, List.length_cons, List.length_nil]; omega) | (simp only [List.length_append]; omega)); (case z_z => first | exact Nat.le_of_ble_eq_true rfl | (simp only [List.length_append, List.length_cons, List.length_nil]; omega) | (simp only [List.length_append]; omega)); (case s_z => with_unfolding_all rfl)) | (refine' sub_tup_any ?N_z ?m_z ?a_z ?b_z ?z_z ?s_z ?_; (case N_z => k_asm); (case m_z => k_mem); (case a_z => omega); (case b_z => first | (simp only [List.length_cons, List.length_nil]; omega) | (simp only [List.length_append, List.length_cons, List.length_nil]; omega) | (simp only [List.length_append]; omega)); (case z_z => first | exact Nat.le_of_ble_eq_true rfl | (simp only [List.length_append, List.length_cons, List.length_nil]; omega) | (simp only [List.length_append]; omega)); (case s_z => with_unfolding_all rfl))); intro _ _)
  k_with "m subscriptTail Tuple" => (k_here; (with_reducible show wpAny _ _ (subscriptTail _ _ (Value.ref _) (Value.int _ _)) _ _ _); k_dflt (first | (refine' sub_list_any ?N_z ?m_z ?a_z ?b_z ?z_z ?s_z ?_; (case N_z => k_asm); (case m_z => k_mem); (case a_z => omega); (case b_z => first | (simp only [List.length_cons, List.length_nil]; omega) | (simp only [List.length_append, List.length_cons, List.length_nil]; omega) | (simp only [List.length_append]; omega)); (case z_z => first | exact Nat.le_of_ble_eq_true rfl | (simp only [List.length_append, List.length_cons, List.length_nil]; omega) | (simp only [List.length_append]; omega)); (case s_z => with_unfolding_all rfl)) | (refine' sub_tup_any ?N_z ?m_z ?a_z ?b_z ?z_z ?s_z ?_; (case N_z => k_asm); (case m_z => k_mem); (case a_z => omega); (case b_z => first | (simp only [List.length_cons, List.length_nil]; omega) | (simp only [List.length_append, List.length_cons, List.length_nil]; omega) | (simp only [List.length_append]; omega)); (case z_z => first | exact Nat.le_of_ble_eq_true rfl | (simp only [List.length_append, List.length_cons, List.length_nil]; omega) | (simp only [List.length_append]; omega)); (case s_z => with_unfolding_all rfl))); intro _ _)
  k_with "m subscriptTail List" => (k_here; (with_reducible show wpAny _ _ (subscriptTail _ _ (Value.ref _) (Value.int _ _)) _ _ _); k_dflt (first | (refine' sub_list_any ?N_z ?m_z ?a_z ?b_z ?z_z ?s_z ?_; (case N_z => k_asm); (case m_z => k_mem); (case a_z => omega); (case b_z => first | (simp only [List.length_cons, List.length_nil]; omega) | (simp only [List.length_append, List.length_cons, List.length_nil]; omega) | (simp only [List.length_append]; omega)); (case z_z => first | exact Nat.le_of_ble_eq_true rfl | (simp only [List.length_append, List.length_cons, List.length_nil]; omega) | (simp only [List.length_append]; omega)); (case s_z => with_unfolding_all rfl)) | (refine' sub_tup_any ?N_z ?m_z ?a_z ?b_z ?z_z ?s_z ?_; (case N_z => k_asm); (case m_z => k_mem); (case a_z => omega); (case b_z => first | (simp only [List.length_cons, List.length_nil]; omega) | (simp only [List.length_append, List.length_cons, List.length_nil]; omega) | (simp only [List.length_append]; omega)); (case z_z => first | exact Nat.le_of_ble_eq_true rfl | (simp only [List.length_append, List.length_cons, List.length_nil]; omega) | (simp only [List.length_append]; omega)); (case s_z => with_unfolding_all rfl))); intro _ _)
  k_with "m execs cons" => (k_here; (with_reducible show wpAny _ _ _ _ _ (Shared.mk _ _ _ (_ + 1) _)); refine gen_toks ?_; intro (tk : Nat))
  k_with "m KdnMade" => (k_dflt (refine' kdn_led ?F_z ?N_z ?U_z ?hne_z ?hd_z ?hk_z ?hn_z ?_; (case F_z => k_asm); (case N_z => k_asm); (case U_z => (repeat (first | exact Pull.here | apply Pull.there | apply Pull.app))); (case hd_z => assumption); (case hk_z => rfl); (case hn_z => exact of_decide_eq_true (by rfl)); (case hne_z => (repeat' (first | assumption | refine List.forall_mem_cons.mpr ⟨?_, ?_⟩ | refine List.forall_mem_append.mpr ⟨?_, ?_⟩ | exact List.forall_mem_nil _ | exact ne_of_abv1 (by assumption) | exact ne_of_abv2 (by assumption) (by k_mem) | exact ne_of_all (by assumption) (by k_mem) | exact ne_of_low1 (by assumption) (by k_mem) | exact ne_of_low (by assumption) (by (repeat' (first | assumption | exact List.forall_mem_nil _ | refine sub_app ?_ ?_ | refine sub_cons ?_ ?_ | k_mem | (intro _ _; k_mem)))))))); intro _ _ _ _ _; (try k_sweep))
  k_with "m getMethod ref" => (k_here; (with_reducible show wpAny _ _ (getMethod (Value.ref _) (Str.ofString "items") _) _ _ _); k_dflt (refine' kdl_method (knd := PySem.strKind _ _) PySem.F.slot_dict_items PySem.F.type_dict_items ?N_z ?p_z ?d_z ?_; (case N_z => k_asm); (case p_z => k_mem); (case d_z => assumption)))
  k_with "m call builtin:dict.items" => (k_here; (show wpAny _ _ (call (Value.builtin "dict.items") [Value.ref _]) _ _ _); k_dflt (refine' kdx_view (knd := PySem.strKind _ _) ?F_z ?N_z ?p_z ?d_z ?lo_z ?_; (case F_z => k_asm); (case N_z => k_asm); (case p_z => k_mem); (case d_z => assumption); (case lo_z => assumption)); intro _ _ _ _ _; (try k_sweep))
  k_with "m call type:list" => (k_here; (with_reducible show wpAny _ _ (call (Value.type "list") [Value.ref _]) _ _ _); k_dflt (refine' items_led rfl ?F_z ?N_z ?v_z ?m_z ?d_z ?z_z ?_; (case F_z => k_asm); (case N_z => k_asm); (case v_z => k_mem); (case m_z => k_mem); (case d_z => assumption); (case z_z => omega)); intro _ _ _ _ _ _ _ _ _ _ _; (try k_sweep))
  k_with "m call type:dict" => (k_here; (with_reducible show wpAny _ _ (call (Value.type "dict") [Value.ref _]) _ _ _); k_dflt (refine' dict_pairs rfl ?F_z ?N_z ?l_z ?p_z ?n_z ?lim_z ?z_z ?_; (case F_z => k_asm); (case N_z => k_asm); (case l_z => k_mem); (case p_z => exact PairsAre.mono (by assumption) (by (repeat' (first | assumption | exact List.forall_mem_nil _ | refine sub_app ?_ ?_ | refine sub_cons ?_ ?_ | k_mem | (intro _ _; k_mem))))); (case n_z => first | assumption | exact dict_nodup (by assumption)); (case lim_z => exact Top.nolimit (by assumption)); (case z_z => omega)); intro _ _ _ _ _ _ _ _ _; (try k_sweep))
  k_with "m setItem ref str" => (k_here; (with_reducible show wpAny _ _ (setItem (Value.ref _) (Value.str _ _) _) _ _ _); k_dflt (refine' set_led ?F_z ?N_z ?U_z ?hne_z ?hd_z ?hz_z ?_; (case F_z => k_asm); (case N_z => k_asm); (case U_z => (repeat (first | exact Pull.here | apply Pull.there | apply Pull.app))); (case hd_z => assumption); (case hne_z => (repeat' (first | assumption | refine List.forall_mem_cons.mpr ⟨?_, ?_⟩ | refine List.forall_mem_append.mpr ⟨?_, ?_⟩ | exact List.forall_mem_nil _ | exact ne_of_abv1 (by assumption) | exact ne_of_abv2 (by assumption) (by k_mem) | exact ne_of_all (by assumption) (by k_mem) | exact ne_of_low1 (by assumption) (by k_mem) | exact ne_of_low (by assumption) (by (repeat' (first | assumption | exact List.forall_mem_nil _ | refine sub_app ?_ ?_ | refine sub_cons ?_ ?_ | k_mem | (intro _ _; k_mem))))))); (case hz_z => omega)); intro _ _ _ _ _; (try k_sweep))
  k_with "m call ref" => ((k_here; (with_reducible show wpAny _ _ (call (Value.ref 130) _) _ _ _); first | (k_dflt (refine' ct_use (draw_ct ?hI_z ?hlen_z ?hl_z ?hb_z ?hm_z ?hm2_z ?h0_z ?h1_z) ?B_z ?F_z ?X_z (newsPull ?N_z ?U_z) ?T_z ?hk_z ?hd_z ?hu_z ?_; (case N_z => k_asm); (case U_z => (repeat (first | exact Pull.here | apply Pull.there | apply Pull.app))); (case B_z => k_asm); (case F_z => k_asm); (case X_z => k_asm); (case T_z => k_asm); (case hk_z => first | exact rfl | assumption); (case hd_z => (first | omega | (simp only [depth_caller, depth_deeper]; decide) | ((have hcL9 := cLine_is); (simp only [units_caller, units_deeper, Around.mark_units]); omega) | ((try simp only [depth_deeper, units_deeper, depth_in1, units_in1]); omega) | fail "room")); (case hu_z => (first | omega | (simp only [depth_caller, depth_deeper]; decide) | ((have hcL9 := cLine_is); (simp only [units_caller, units_deeper, Around.mark_units]); omega) | ((try simp only [depth_deeper, units_deeper, depth_in1, units_in1]); omega) | fail "room")); (case hl_z => k_mem); (case hI_z => assumption); (case hlen_z => assumption); (case hb_z => (repeat' (first | assumption | refine List.forall_mem_cons.mpr ⟨?_, ?_⟩ | refine List.forall_mem_append.mpr ⟨?_, ?_⟩ | exact List.forall_mem_nil _ | exact ne_of_abv1 (by assumption) | exact ne_of_abv2 (by assumption) (by k_mem) | exact ne_of_all (by assumption) (by k_mem) | exact ne_of_low1 (by assumption) (by k_mem) | exact ne_of_low (by assumption) (by (repeat' (first | assumption | exact List.forall_mem_nil _ | refine sub_app ?_ ?_ | refine sub_cons ?_ ?_ | k_mem | (intro _ _; k_mem))))))); (case hm_z => decide); (case hm2_z => decide); (case h0_z => omega); (case h1_z => omega)); intro _ _ _ _ _ _ P9; obtain ⟨_, _, _, e9, _, _, en9⟩ := P9; subst e9; subst en9; (try dsimp only)) | refine stop_of ?_))
  k_with "m call ref" => (k_here; (with_reducible show wpAny _ _ (call (Value.ref 151) _) _ _ _); first | (k_dflt (refine' ct_use (policy_ct ?hI_z ?hlen_z ?hl_z ?hb_z ?h0_z ?h1_z) ?B_z ?F_z ?X_z (newsPull ?N_z ?U_z) ?T_z ?hk_z ?hd_z ?hu_z ?_; (case N_z => k_asm); (case U_z => (repeat (first | exact Pull.here | apply Pull.there | apply Pull.app))); (case B_z => k_asm); (case F_z => k_asm); (case X_z => k_asm); (case T_z => k_asm); (case hk_z => first | exact rfl | assumption); (case hd_z => (first | omega | (simp only [depth_caller, depth_deeper]; decide) | ((have hcL9 := cLine_is); (simp only [units_caller, units_deeper, Around.mark_units]); omega) | ((try simp only [depth_deeper, units_deeper, depth_in1, units_in1]); omega) | fail "room")); (case hu_z => (first | omega | (simp only [depth_caller, depth_deeper]; decide) | ((have hcL9 := cLine_is); (simp only [units_caller, units_deeper, Around.mark_units]); omega) | ((try simp only [depth_deeper, units_deeper, depth_in1, units_in1]); omega) | fail "room")); (case hl_z => k_mem); (case hI_z => assumption); (case hlen_z => assumption); (case hb_z => (repeat' (first | assumption | refine List.forall_mem_cons.mpr ⟨?_, ?_⟩ | refine List.forall_mem_append.mpr ⟨?_, ?_⟩ | exact List.forall_mem_nil _ | exact ne_of_abv1 (by assumption) | exact ne_of_abv2 (by assumption) (by k_mem) | exact ne_of_all (by assumption) (by k_mem) | exact ne_of_low1 (by assumption) (by k_mem) | exact ne_of_low (by assumption) (by (repeat' (first | assumption | exact List.forall_mem_nil _ | refine sub_app ?_ ?_ | refine sub_cons ?_ ?_ | k_mem | (intro _ _; k_mem))))))); (case h0_z => omega); (case h1_z => omega); intro _ _ _ _ _ _ P9; obtain ⟨_, _, _, en9, ab9, _, _, _, _, _⟩ := P9; subst en9; have ab9' := ab9.1; (try dsimp only))) | refine stop_of ?_)
  k_with "m pyIter ref" => refine stop_of ?_
  k_with "m UnrEnd" => refine stop_of ?_
  k_with "m exec For Name Name cons nil" => (k_here; (rename Fr _ _ _ _ => lF'); (with_unfolding_all refine' For_invVF lF' ?k1_z ?k2_z ?_; (case k1_z => exact rfl); (case k2_z => exact rfl); k_whole))
  k_with "m exec For Name Call cons nil" => (k_here; (rename Fr _ _ _ _ => lF'); (with_unfolding_all refine' For_invVF lF' ?k1_z ?k2_z ?_; (case k1_z => exact rfl); (case k2_z => exact rfl); k_whole))
  k_with "m eval ListComp" => refine stop_of ?_
  k_with "m call ref" => (k_here; (with_reducible show wpAny _ _ (call (Value.ref 122) _) _ _ _); refine stop_of ?_)
  k_with "m call ref" => (k_here; (with_reducible show wpAny _ _ (call (Value.ref 156) _) _ _ _); refine stop_of ?_)
  k_with "m call ref" => (k_here; (with_reducible show wpAny _ _ (call (Value.ref 161) _) _ _ _); refine stop_of ?_)
  k_with "m storeName" => (k_here; k_dflt (refine' cell_led ?F_z ?N_z ?c_z ?U_z ?hne_z ?d_z ?a_z ?b_z ?_; (case a_z => rfl); (case b_z => rfl); (case F_z => k_asm); (case N_z => k_asm); (case c_z => rfl); (case U_z => (repeat (first | exact Pull.here | apply Pull.there | apply Pull.app))); (case d_z => k_asm); (case hne_z => (repeat' (first | assumption | refine List.forall_mem_cons.mpr ⟨?_, ?_⟩ | refine List.forall_mem_append.mpr ⟨?_, ?_⟩ | exact List.forall_mem_nil _ | exact ne_of_all (by assumption) (by k_mem) | exact ne_of_low1 (by assumption) (by k_mem) | exact ne_low_add (by assumption) (by omega) | (refine neN ?_; (try dsimp only); omega))))); intro _ _ _ _ _; (try k_sweep))
  k_with "m call type:range" => (k_here; (with_reducible show wpAny _ _ (call (Value.type "range") [Value.int _ _]) _ _ _); k_dflt (refine' range1_rows ?F_z ?N_z ?_; (case F_z => k_asm); (case N_z => k_asm)); intro _ _ _ _ _ _ _ _ _)
  k_with "m compareOp Eq ref ref" => refine stop_of ?_
  k_with "m subscriptTail" => (k_here; (with_reducible show wpAny _ _ (subscriptTail _ _ (Value.ref _) (Value.str _ _)) _ _ _); k_dflt (refine' item_led ?N_z ?hp_z ?hd_z ?hl_z ?hs_z ?hg_z ?_; (case N_z => k_asm); (case hp_z => k_mem); (case hd_z => assumption); (case hl_z => assumption); (case hs_z => with_unfolding_all rfl); (case hg_z => intro _; with_unfolding_all rfl)))
  k_with "m compareOp NotEq ref ref" => refine stop_of ?_
  k_with "m Exists" => refine stop_of ?_
  trivial
theorem law_tail (w : World) : TailP w := by
  unfold TailP
  k_fill
  intro pr body sc hdef mean mg mb m0 base h₀ L fa b l d pa df ccd v o1 o2 n n' kp sp x y two cc t vs ns terms S s Q E B F X N T hc1 hc2 hI hlen hl hpol hab hpre hfa nb n1 n2 hcb h0 h1 hQ hE
  cases hdef.symm.trans (rfl : Program.theDef Challenge.pw_sj0179_01 (Str.ofString "law") = some (_, _, _))
  clear hdef
  dsimp only [List.drop]
  obtain ⟨hm, hd, lo, hk⟩ := hab
  have hz7 := att_len hd hk
  k_steps
  unfold Stop
  rename Fr _ _ _ _ => F1
  rename News _ _ _ _ => N1
  rename_i DP oDP h8 tk8 ltP loP hdP h7
  have ltR : ∀ q ∈ (b, boxO l n sp t) :: (L + 1 + 1, o1) :: (L + 1, o2) :: S, @LT.lt Nat _ q.1 DP := fun q hq => ltP q (List.mem_cons_of_mem _ (List.mem_append_right _ (List.mem_cons_of_mem _ hq)))
  have N2 : News _ _ _ ((DP, oDP) :: (b, boxO l n sp t) :: (L + 1 + 1, o1) :: (L + 1, o2) :: S) := newsSub N1 (List.forall_mem_cons.mpr ⟨by k_mem, fun q hq => List.mem_cons_of_mem _ (List.mem_cons_of_mem _ (List.mem_append_right _ (List.mem_cons_of_mem _ hq)))⟩)
  have neP : ∀ q ∈ (b, boxO l n sp t) :: (L + 1 + 1, o1) :: (L + 1, o2) :: S, q.1 ≠ DP := fun q hq => Nat.ne_of_lt (ltR q hq)
  have hg := X 123 _ (by k_is)
  refine iter_gtup (vs := names4 385 386 387 388) (FlJ w (plN ⟨x, two, none, none, none, none, []⟩) DP ((b, boxO l n sp t) :: (L + 1 + 1, o1) :: (L + 1, o2) :: S) S _) rfl F1 N2 ⟨_, hg, rfl, _, rfl⟩ (FlJ.start hdP hk) ?turn ?done
  case turn =>
    clear F1 N1 N2 ltP
    rintro I io i v9 m₁ news₁ h tk hlI hiv ⟨nv, oD2, kv2, rfl, rfl, hd2, hk2⟩ hoff F1 N1
    obtain ⟨tv, rfl⟩ := names4_at hiv
    have hz8 := att_len hd2 hk2
    have hrD : ∀ q ∈ (I, io) :: (b, boxO l n sp t) :: (L + 1 + 1, o1) :: (L + 1, o2) :: S, q.1 ≠ DP := List.forall_mem_cons.mpr ⟨fun e => hoff (DP, oD2) (by k_mem) e.symm, neP⟩
    k_steps
    unfold Stop
    rename Fr _ _ _ _ => F5
    rename News _ _ _ _ => N5
    rename Obj.IsDictOf _ _ (stored _ _ _) => hd5
    exact FlJ.close F5 N5 (by (repeat' (first | assumption | exact List.forall_mem_nil _ | refine sub_app ?_ ?_ | refine sub_cons ?_ ?_ | k_mem | (intro _ _; k_mem)))) (fun y h1 => by simp [h1]) (hoff _ List.mem_cons_self) (fun q hq => hoff q (List.mem_cons_of_mem _ hq)) hd5 (att_set hd5 hk2 (sets_put i _ _) fun j => valueAt_stored)
  case done =>
    clear F1 N1 N2 ltP
    rintro m₁ news₁ h tk ⟨nv, oD2, kv2, rfl, rfl, hd2, hk2⟩ F1 N1
    have hk3 : AttK S kv2 (plainR ⟨x, two, none, none, none, none, []⟩) := plN_att rfl hk2
    have hz8 := att_len hd2 hk3
    have hP : AttIs w ((DP, oD2) :: S) DP (plainR ⟨x, two, none, none, none, none, []⟩) := .mk List.mem_cons_self hd2 loP (hk3.mono fun _ hp => List.mem_cons_of_mem _ hp)
    clear hk2
    k_steps
    unfold Stop
    rename Fr _ _ _ _ => F1
    rename News _ _ _ _ => N1
    rename Obj.IsDictOf _ _ (stored _ _ _) => hdR
    rename_i DR oDR h3 tk1 Fx Nx ltR9 loR hdx h2 tk0 T4 h10 ltT h9 oR
    clear Fx Nx
    have hkR : AttK ((DR, oR) :: (T4, tupO [.int 1 tk0, .int 2 (tk0 + 1), .int 3 (tk0 + 1 + 1), .int 4 (tk0 + 1 + 1 + 1)]) :: (DP, oD2) :: S) (stored kv2 (Str.ofString "communities") (.ref T4)) (richR ⟨x, two, none, none, none, none, []⟩) :=
      att_com (r := plainR ⟨x, two, none, none, none, none, []⟩) hdR (hk3.mono fun _ hp => by k_mem) (fun j hj => by rw [valueAt_stored, if_neg hj]) (by rw [valueAt_stored, if_pos rfl]; exact .some (by k_mem) ints4 (by decide))
    have hlow : ∀ q ∈ (DP, oD2) :: (b, boxO l n sp t) :: (L + 1 + 1, o1) :: (L + 1, o2) :: S, @LT.lt Nat _ q.1 DR := fun q hq => ltR9 q (List.mem_cons_of_mem _ (List.mem_append_right _ (List.mem_cons_of_mem _ hq)))
    have hlowT : @LT.lt Nat _ DR T4 := ltT (DR, oDR) List.mem_cons_self
    obtain ⟨S2, N2, hPb, hRi, hBa, hpol2, hpre2, hfa2, hl2, nb2, n12, n22⟩ : ∃ S2 : Led, News h₀ L h9 ((b, boxO l n sp t) :: (L + 1 + 1, o1) :: (L + 1, o2) :: S2) ∧ AttIs w S2 DP (plainR ⟨x, two, none, none, none, none, []⟩) ∧ AttIs w S2 DR (richR ⟨x, two, none, none, none, none, []⟩) ∧
        AttIs w S2 d ⟨x, two, none, none, none, none, []⟩ ∧ PolIs S2 v terms cc ∧ PreIs S2 pa kp ∧ FactsIs w S2 df y ∧ (l, PySem.W.listOf vs.toArray n') ∈ S2 ∧ (∀ q ∈ S2, q.1 ≠ b) ∧ (∀ q ∈ S2, q.1 ≠ L + 1 + 1) ∧ (∀ q ∈ S2, q.1 ≠ L + 1) := by
      refine ⟨(DR, oR) :: (T4, tupO [.int 1 tk0, .int 2 (tk0 + 1), .int 3 (tk0 + 1 + 1), .int 4 (tk0 + 1 + 1 + 1)]) :: (DP, oD2) :: S, newsSub N1 ?_, hP.mono fun _ hp => List.mem_cons_of_mem _ (List.mem_cons_of_mem _ hp), .mk List.mem_cons_self hdR loR hkR, .mk (by k_mem) hd lo (hk.mono fun _ hp => by k_mem), hpol.mono fun _ hp => by k_mem, hpre.mono fun _ hp => by k_mem, hfa.mono fun _ hp => by k_mem, by k_mem, ?_, ?_, ?_⟩
      · (repeat' (first | assumption | exact List.forall_mem_nil _ | refine sub_app ?_ ?_ | refine sub_cons ?_ ?_ | k_mem | (intro _ _; k_mem)))
      all_goals refine List.forall_mem_cons.mpr ⟨?_, List.forall_mem_cons.mpr ⟨?_, List.forall_mem_cons.mpr ⟨?_, by assumption⟩⟩⟩
      all_goals first
        | exact Nat.ne_of_gt (hlow (_, _) (by k_mem))
        | exact Nat.ne_of_gt (Nat.lt_trans (hlow (_, _) (by k_mem)) hlowT)
        | exact Nat.ne_of_gt (ltR (_, _) (by k_mem))
    clear N1 hkR hdR hlow hlowT hP hpol hpre hfa nb n1 n2 ltR9 ltT ltR neP hl hk3 hd2 loP
    obtain ⟨o, f, hf, hrun⟩ := runT_shape ⟨two, x, y, kp⟩ cc terms
    have nbc : ∀ {oa ob}, ∀ q ∈ (L + 1 + 1, oa) :: (L + 1, ob) :: S2, q.1 ≠ b := fun {oa ob} => List.forall_mem_cons.mpr ⟨Nat.ne_of_lt hcb, List.forall_mem_cons.mpr ⟨Nat.ne_of_lt (Nat.lt_of_succ_lt hcb), nb2⟩⟩
    cases o
    · refine' ct_use (polrun2 (N₀ := S2) hrun ?hpol ?hp hPb ?hsub rfl ?hf ?ho ?ht) ?B ?F ?X ?N ?T ?hk ?hd ?hu ?_
      (case B => k_asm); (case F => k_asm); (case X => k_asm); (case N => k_asm); (case T => k_asm); (case hk => exact rfl); (case hd => (first | omega | (simp only [depth_caller, depth_deeper]; decide) | ((have hcL9 := cLine_is); (simp only [units_caller, units_deeper, Around.mark_units]); omega) | ((try simp only [depth_deeper, units_deeper, depth_in1, units_in1]); omega) | fail "room")); (case hu => (first | omega | (simp only [depth_caller, depth_deeper]; decide) | ((have hcL9 := cLine_is); (simp only [units_caller, units_deeper, Around.mark_units]); omega) | ((try simp only [depth_deeper, units_deeper, depth_in1, units_in1]); omega) | fail "room")); (case hpol => exact PolIs.mono (by assumption) (by (repeat' (first | assumption | exact List.forall_mem_nil _ | refine sub_app ?_ ?_ | refine sub_cons ?_ ?_ | k_mem | (intro _ _; k_mem))))); (case hp => exact PreIs.mono (by assumption) (by (repeat' (first | assumption | exact List.forall_mem_nil _ | refine sub_app ?_ ?_ | refine sub_cons ?_ ?_ | k_mem | (intro _ _; k_mem))))); (case hf => exact FactsIs.mono (by assumption) (by (repeat' (first | assumption | exact List.forall_mem_nil _ | refine sub_app ?_ ?_ | refine sub_cons ?_ ?_ | k_mem | (intro _ _; k_mem))))); (case hsub => (repeat' (first | assumption | exact List.forall_mem_nil _ | refine sub_app ?_ ?_ | refine sub_cons ?_ ?_ | exact sub_tr (by assumption) (by (repeat' (first | assumption | exact List.forall_mem_nil _ | refine sub_app ?_ ?_ | refine sub_cons ?_ ?_ | k_mem | (intro _ _; k_mem)))) | k_mem | (intro _ _; k_mem)))); (case ho => first | rfl | assumption); (case ht => first | rfl | assumption)
      rintro _ _ h9 tk9 F9 N9 ⟨tl9, rfl, lt9, rfl⟩
      replace N9 := newsSub N9 sub_right
      clear lt9
      k_steps
      unfold Stop
      refine' ct_use (polrun2 (N₀ := S2) hrun ?hpol ?hp hRi ?hsub rfl ?hf ?ho ?ht) ?B ?F ?X ?N ?T ?hk ?hd ?hu ?_
      (case B => k_asm); (case F => k_asm); (case X => k_asm); (case N => k_asm); (case T => k_asm); (case hk => exact rfl); (case hd => (first | omega | (simp only [depth_caller, depth_deeper]; decide) | ((have hcL9 := cLine_is); (simp only [units_caller, units_deeper, Around.mark_units]); omega) | ((try simp only [depth_deeper, units_deeper, depth_in1, units_in1]); omega) | fail "room")); (case hu => (first | omega | (simp only [depth_caller, depth_deeper]; decide) | ((have hcL9 := cLine_is); (simp only [units_caller, units_deeper, Around.mark_units]); omega) | ((try simp only [depth_deeper, units_deeper, depth_in1, units_in1]); omega) | fail "room")); (case hpol => exact PolIs.mono (by assumption) (by (repeat' (first | assumption | exact List.forall_mem_nil _ | refine sub_app ?_ ?_ | refine sub_cons ?_ ?_ | k_mem | (intro _ _; k_mem))))); (case hp => exact PreIs.mono (by assumption) (by (repeat' (first | assumption | exact List.forall_mem_nil _ | refine sub_app ?_ ?_ | refine sub_cons ?_ ?_ | k_mem | (intro _ _; k_mem))))); (case hf => exact FactsIs.mono (by assumption) (by (repeat' (first | assumption | exact List.forall_mem_nil _ | refine sub_app ?_ ?_ | refine sub_cons ?_ ?_ | k_mem | (intro _ _; k_mem))))); (case hsub => (repeat' (first | assumption | exact List.forall_mem_nil _ | refine sub_app ?_ ?_ | refine sub_cons ?_ ?_ | exact sub_tr (by assumption) (by (repeat' (first | assumption | exact List.forall_mem_nil _ | refine sub_app ?_ ?_ | refine sub_cons ?_ ?_ | k_mem | (intro _ _; k_mem)))) | k_mem | (intro _ _; k_mem)))); (case ho => first | rfl | assumption); (case ht => first | rfl | assumption)
      rintro _ _ h8 tk8 F8 N8 ⟨tl8, rfl, lt8, rfl⟩
      replace N8 := newsSub N8 sub_right
      clear lt8 F9 N9
      k_steps
      unfold Stop
      rename Fr _ _ _ _ => F1
      rename News _ _ _ _ => N1
      rename IsRange _ _ _ _ _ _ _ _ => hR1
      rename_i oc2 dc2 h4 oc1 Nx dc1 h3 tk4 tt1 uu1 vv1 hkeep
      have N3 : News _ _ _ ((b, boxO l n sp t) :: (L + 1 + 1, oc1) :: (L + 1, oc2) :: S2) := newsSub N1 (by (repeat' (first | assumption | exact List.forall_mem_nil _ | refine sub_app ?_ ?_ | refine sub_cons ?_ ?_ | k_mem | (intro _ _; k_mem))))
      refine iter_rng0 (LtJ b l n sp ((L + 1 + 1, oc1) :: (L + 1, oc2) :: S2) _) rfl hR1 (by omega) (by omega) F1 N3 LtJ.start ?turn1 ?done1
      case turn1 =>
        clear F1 N1 N3 hR1 Nx hkeep lF'
        rintro I io i ti m₁ news₁ h tk hlI hi ⟨tv, av, kv, ov, sp', t', rfl, rfl, lo2, hi2⟩ hoff F1 N1
        have hi3 : i < 3 := by omega
        k_steps
        unfold Stop
        refine' ct_use (route_ct (N₀ := S2) hI hlen ?hl ?hb ?h0 ?h1 hBa ?hsub rfl) ?B ?F ?X (newsPull ?N ?U) ?T ?hk ?hd ?hu ?_
        (case N => k_asm); (case U => (repeat (first | exact Pull.here | apply Pull.there | apply Pull.app))); (case B => k_asm); (case F => k_asm); (case X => k_asm); (case T => k_asm); (case hk => first | exact rfl | assumption); (case hd => (first | omega | (simp only [depth_caller, depth_deeper]; decide) | ((have hcL9 := cLine_is); (simp only [units_caller, units_deeper, Around.mark_units]); omega) | ((try simp only [depth_deeper, units_deeper, depth_in1, units_in1]); omega) | fail "room")); (case hu => (first | omega | (simp only [depth_caller, depth_deeper]; decide) | ((have hcL9 := cLine_is); (simp only [units_caller, units_deeper, Around.mark_units]); omega) | ((try simp only [depth_deeper, units_deeper, depth_in1, units_in1]); omega) | fail "room")); (case hl => k_mem); (case hb => exact List.forall_mem_cons.mpr ⟨fun e => hoff _ List.mem_cons_self e.symm, nbc⟩); (case h0 => omega); (case h1 => omega); (case hsub => (repeat' (first | assumption | exact List.forall_mem_nil _ | refine sub_app ?_ ?_ | refine sub_cons ?_ ?_ | k_mem | (intro _ _; k_mem))))
        rintro _ _ h5 tk5 F5 N5 ⟨tl5, t5, sp5, rfl, ab5, lo5, hi5, DA, xa, rfl, hA, okA, orgA, twoA⟩
        have hA2 := hA
        obtain ⟨hmA, hdA, loA, hkA⟩ := hA
        rename_i oA kvA
        have hzA := att_len hdA hkA
        have hmA2 : (DA, oA) ∈ (b, boxO l n sp5 t5) :: (tl5 ++ (I, io) :: (L + 1 + 1, oc1) :: (L + 1, oc2) :: S2) := (List.mem_append.mp hmA).elim (fun h => by k_mem) (fun h => by k_mem)
        k_steps
        unfold Stop
        refine' ct_use (polrun2 (N₀ := tl5 ++ S2) hrun ?hpol ?hp hA2 ?hsub okA ?hf orgA twoA) ?B ?F ?X ?N ?T ?hk ?hd ?hu ?_
        (case B => k_asm); (case F => k_asm); (case X => k_asm); (case N => k_asm); (case T => k_asm); (case hk => exact rfl); (case hd => (first | omega | (simp only [depth_caller, depth_deeper]; decide) | ((have hcL9 := cLine_is); (simp only [units_caller, units_deeper, Around.mark_units]); omega) | ((try simp only [depth_deeper, units_deeper, depth_in1, units_in1]); omega) | fail "room")); (case hu => (first | omega | (simp only [depth_caller, depth_deeper]; decide) | ((have hcL9 := cLine_is); (simp only [units_caller, units_deeper, Around.mark_units]); omega) | ((try simp only [depth_deeper, units_deeper, depth_in1, units_in1]); omega) | fail "room")); (case hpol => exact PolIs.mono (by assumption) (by (repeat' (first | assumption | exact List.forall_mem_nil _ | refine sub_app ?_ ?_ | refine sub_cons ?_ ?_ | k_mem | (intro _ _; k_mem))))); (case hp => exact PreIs.mono (by assumption) (by (repeat' (first | assumption | exact List.forall_mem_nil _ | refine sub_app ?_ ?_ | refine sub_cons ?_ ?_ | k_mem | (intro _ _; k_mem))))); (case hf => exact FactsIs.mono (by assumption) (by (repeat' (first | assumption | exact List.forall_mem_nil _ | refine sub_app ?_ ?_ | refine sub_cons ?_ ?_ | k_mem | (intro _ _; k_mem))))); (case hsub => (repeat' (first | assumption | exact List.forall_mem_nil _ | refine sub_app ?_ ?_ | refine sub_cons ?_ ?_ | k_mem | (intro _ _; k_mem))))
        rintro _ _ h6 tk6 F6 N6 ⟨tl6, rfl, lt6, rfl⟩
        replace N6 := newsSub N6 sub_right
        clear lt6
        k_steps
        unfold Stop
        rename News _ _ _ _ => N7
        rename Obj.IsDictOf _ _ kvA => hdK
        rename (_ == sysModules) = false => loK
        refine ne_att (r := xa) N7 (.mk (by k_mem) hdA loA (hkA.mono (by (repeat' (first | assumption | exact List.forall_mem_nil _ | refine sub_app ?_ ?_ | refine sub_cons ?_ ?_ | k_mem | (intro _ _; k_mem)))))) (.mk (by k_mem) hdK loK (hkA.mono (by (repeat' (first | assumption | exact List.forall_mem_nil _ | refine sub_app ?_ ?_ | refine sub_cons ?_ ?_ | k_mem | (intro _ _; k_mem)))))) (by (first | omega | (simp only [depth_caller, depth_deeper]; decide) | ((have hcL9 := cLine_is); (simp only [units_caller, units_deeper, Around.mark_units]); omega) | ((try simp only [depth_deeper, units_deeper, depth_in1, units_in1]); omega) | fail "room")) (by (first | omega | (simp only [depth_caller, depth_deeper]; decide) | ((have hcL9 := cLine_is); (simp only [units_caller, units_deeper, Around.mark_units]); omega) | ((try simp only [depth_deeper, units_deeper, depth_in1, units_in1]); omega) | fail "room")) ?_
        k_steps
        unfold Stop
        rename Fr _ _ _ _ => F8
        rename News _ _ _ _ => N8
        exact LtJ.close F8 N8 (by (repeat' (first | assumption | exact List.forall_mem_nil _ | refine sub_app ?_ ?_ | refine sub_cons ?_ ?_ | k_mem | (intro _ _; k_mem)))) (fun y h1 h2 h3 h4 => by simp [h1, h2, h3, h4]) (hoff _ List.mem_cons_self) (fun q hq => hoff q (List.mem_cons_of_mem _ hq)) (by omega) (by omega)
      case done1 =>
        clear F1 N1 N3 hR1 Nx hkeep lF'
        rintro m₁ news₁ h tk ⟨tv, av, kv, ov, sp', t', rfl, rfl, lo2, hi2⟩ F1 N1
        k_steps
        exact hQ _ _ _ (by k_asm)
    · refine' ct_use (polrun2 (N₀ := S2) hrun ?hpol ?hp hPb ?hsub rfl ?hf ?ho ?ht) ?B ?F ?X ?N ?T ?hk ?hd ?hu ?_
      (case B => k_asm); (case F => k_asm); (case X => k_asm); (case N => k_asm); (case T => k_asm); (case hk => exact rfl); (case hd => (first | omega | (simp only [depth_caller, depth_deeper]; decide) | ((have hcL9 := cLine_is); (simp only [units_caller, units_deeper, Around.mark_units]); omega) | ((try simp only [depth_deeper, units_deeper, depth_in1, units_in1]); omega) | fail "room")); (case hu => (first | omega | (simp only [depth_caller, depth_deeper]; decide) | ((have hcL9 := cLine_is); (simp only [units_caller, units_deeper, Around.mark_units]); omega) | ((try simp only [depth_deeper, units_deeper, depth_in1, units_in1]); omega) | fail "room")); (case hpol => exact PolIs.mono (by assumption) (by (repeat' (first | assumption | exact List.forall_mem_nil _ | refine sub_app ?_ ?_ | refine sub_cons ?_ ?_ | k_mem | (intro _ _; k_mem))))); (case hp => exact PreIs.mono (by assumption) (by (repeat' (first | assumption | exact List.forall_mem_nil _ | refine sub_app ?_ ?_ | refine sub_cons ?_ ?_ | k_mem | (intro _ _; k_mem))))); (case hf => exact FactsIs.mono (by assumption) (by (repeat' (first | assumption | exact List.forall_mem_nil _ | refine sub_app ?_ ?_ | refine sub_cons ?_ ?_ | k_mem | (intro _ _; k_mem))))); (case hsub => (repeat' (first | assumption | exact List.forall_mem_nil _ | refine sub_app ?_ ?_ | refine sub_cons ?_ ?_ | exact sub_tr (by assumption) (by (repeat' (first | assumption | exact List.forall_mem_nil _ | refine sub_app ?_ ?_ | refine sub_cons ?_ ?_ | k_mem | (intro _ _; k_mem)))) | k_mem | (intro _ _; k_mem)))); (case ho => first | rfl | assumption); (case ht => first | rfl | assumption)
      rintro _ _ h9 tk9 F9 N9 ⟨tl9, rfl, lt9, DB, rfl, hB⟩
      obtain ⟨N8, nb3, n13, n23⟩ := repack N9 lt9 nb2 n12 n22
      clear N9 lt9
      k_steps
      unfold Stop
      refine' ct_use (polrun2 (N₀ := tl9 ++ S2) hrun ?hpol ?hp (hRi.mono sub_right) ?hsub rfl ?hf ?ho ?ht) ?B ?F ?X ?N ?T ?hk ?hd ?hu ?_
      (case B => k_asm); (case F => k_asm); (case X => k_asm); (case N => k_asm); (case T => k_asm); (case hk => exact rfl); (case hd => (first | omega | (simp only [depth_caller, depth_deeper]; decide) | ((have hcL9 := cLine_is); (simp only [units_caller, units_deeper, Around.mark_units]); omega) | ((try simp only [depth_deeper, units_deeper, depth_in1, units_in1]); omega) | fail "room")); (case hu => (first | omega | (simp only [depth_caller, depth_deeper]; decide) | ((have hcL9 := cLine_is); (simp only [units_caller, units_deeper, Around.mark_units]); omega) | ((try simp only [depth_deeper, units_deeper, depth_in1, units_in1]); omega) | fail "room")); (case hpol => exact PolIs.mono (by assumption) (by (repeat' (first | assumption | exact List.forall_mem_nil _ | refine sub_app ?_ ?_ | refine sub_cons ?_ ?_ | k_mem | (intro _ _; k_mem))))); (case hp => exact PreIs.mono (by assumption) (by (repeat' (first | assumption | exact List.forall_mem_nil _ | refine sub_app ?_ ?_ | refine sub_cons ?_ ?_ | k_mem | (intro _ _; k_mem))))); (case hf => exact FactsIs.mono (by assumption) (by (repeat' (first | assumption | exact List.forall_mem_nil _ | refine sub_app ?_ ?_ | refine sub_cons ?_ ?_ | k_mem | (intro _ _; k_mem))))); (case hsub => (repeat' (first | assumption | exact List.forall_mem_nil _ | refine sub_app ?_ ?_ | refine sub_cons ?_ ?_ | exact sub_tr (by assumption) (by (repeat' (first | assumption | exact List.forall_mem_nil _ | refine sub_app ?_ ?_ | refine sub_cons ?_ ?_ | k_mem | (intro _ _; k_mem)))) | k_mem | (intro _ _; k_mem)))); (case ho => first | rfl | assumption); (case ht => first | rfl | assumption)
      rintro _ _ h7 tk7 F7 N7 ⟨tl7, rfl, lt7, DF, rfl, hF⟩
      obtain ⟨N6, nb4, n14, n24⟩ := repack N7 lt7 nb3 n13 n23
      clear N7 lt7
      obtain ⟨S4, N5, hB4, hF4, hBa4, hpol4, hpre4, hfa4, hl4, nb5, n15, n25⟩ : ∃ S4 : Led, News h₀ L h7 ((b, boxO l n sp t) :: (L + 1 + 1, o1) :: (L + 1, o2) :: S4) ∧ AttIs w S4 DB (f (plainR ⟨x, two, none, none, none, none, []⟩)) ∧ AttIs w S4 DF (f (richR ⟨x, two, none, none, none, none, []⟩)) ∧
          AttIs w S4 d ⟨x, two, none, none, none, none, []⟩ ∧ PolIs S4 v terms cc ∧ PreIs S4 pa kp ∧ FactsIs w S4 df y ∧ (l, PySem.W.listOf vs.toArray n') ∈ S4 ∧ (∀ q ∈ S4, q.1 ≠ b) ∧ (∀ q ∈ S4, q.1 ≠ L + 1 + 1) ∧ (∀ q ∈ S4, q.1 ≠ L + 1) :=
        ⟨tl7 ++ (tl9 ++ S2), N6, hB.mono sub_right, hF, hBa.mono fun _ hp => by k_mem, hpol2.mono fun _ hp => by k_mem, hpre2.mono fun _ hp => by k_mem, hfa2.mono fun _ hp => by k_mem, by k_mem, nb4, n14, n24⟩
      clear N6 N8 F9 hB hF hBa hpol2 hpre2 hfa2 hl2 nb4 n14 n24 nb3 n13 n23 n12 n22 hPb hRi nbc
      have nbc : ∀ {oa ob}, ∀ q ∈ (L + 1 + 1, oa) :: (L + 1, ob) :: S4, q.1 ≠ b := fun {oa ob} => List.forall_mem_cons.mpr ⟨Nat.ne_of_lt hcb, List.forall_mem_cons.mpr ⟨Nat.ne_of_lt (Nat.lt_of_succ_lt hcb), nb5⟩⟩
      k_steps
      unfold Stop
      rename Fr _ _ _ _ => F1
      rename News _ _ _ _ => N1
      rename IsRange _ _ _ _ _ _ _ _ => hR1
      rename_i oc2 dc2 h4 oc1 Nx dc1 h3 tk4 tt1 uu1 vv1 hkeep
      have N3 : News _ _ _ ((b, boxO l n sp t) :: (L + 1 + 1, oc1) :: (L + 1, oc2) :: S4) := newsSub N1 (by (repeat' (first | assumption | exact List.forall_mem_nil _ | refine sub_app ?_ ?_ | refine sub_cons ?_ ?_ | k_mem | (intro _ _; k_mem))))
      refine iter_rng0 (LtJ b l n sp ((L + 1 + 1, oc1) :: (L + 1, oc2) :: S4) _) rfl hR1 (by omega) (by omega) F1 N3 LtJ.start ?turn2 ?done2
      case turn2 =>
        clear F1 N1 N3 hR1 Nx hkeep lF'
        rintro I io i ti m₁ news₁ h tk hlI hi ⟨tv, av, kv, ov, sp', t', rfl, rfl, lo2, hi2⟩ hoff F1 N1
        have hi3 : i < 3 := by omega
        k_steps
        unfold Stop
        refine' ct_use (route_ct (N₀ := S4) hI hlen ?hl ?hb ?h0 ?h1 hBa4 ?hsub rfl) ?B ?F ?X (newsPull ?N ?U) ?T ?hk ?hd ?hu ?_
        (case N => k_asm); (case U => (repeat (first | exact Pull.here | apply Pull.there | apply Pull.app))); (case B => k_asm); (case F => k_asm); (case X => k_asm); (case T => k_asm); (case hk => first | exact rfl | assumption); (case hd => (first | omega | (simp only [depth_caller, depth_deeper]; decide) | ((have hcL9 := cLine_is); (simp only [units_caller, units_deeper, Around.mark_units]); omega) | ((try simp only [depth_deeper, units_deeper, depth_in1, units_in1]); omega) | fail "room")); (case hu => (first | omega | (simp only [depth_caller, depth_deeper]; decide) | ((have hcL9 := cLine_is); (simp only [units_caller, units_deeper, Around.mark_units]); omega) | ((try simp only [depth_deeper, units_deeper, depth_in1, units_in1]); omega) | fail "room")); (case hl => k_mem); (case hb => exact List.forall_mem_cons.mpr ⟨fun e => hoff _ List.mem_cons_self e.symm, nbc⟩); (case h0 => omega); (case h1 => omega); (case hsub => (repeat' (first | assumption | exact List.forall_mem_nil _ | refine sub_app ?_ ?_ | refine sub_cons ?_ ?_ | k_mem | (intro _ _; k_mem))))
        rintro _ _ h5 tk5 F5 N5 ⟨tl5, t5, sp5, rfl, ab5, lo5, hi5, DA, xa, rfl, hA, okA, orgA, twoA⟩
        have hA2 := hA
        obtain ⟨hmA, hdA, loA, hkA⟩ := hA
        rename_i oA kvA
        have hzA := att_len hdA hkA
        have hmA2 : (DA, oA) ∈ (b, boxO l n sp5 t5) :: (tl5 ++ (I, io) :: (L + 1 + 1, oc1) :: (L + 1, oc2) :: S4) := (List.mem_append.mp hmA).elim (fun h => by k_mem) (fun h => by k_mem)
        k_steps
        unfold Stop
        refine' ct_use (polrun2 (N₀ := tl5 ++ S4) hrun ?hpol ?hp hA2 ?hsub okA ?hf orgA twoA) ?B ?F ?X ?N ?T ?hk ?hd ?hu ?_
        (case B => k_asm); (case F => k_asm); (case X => k_asm); (case N => k_asm); (case T => k_asm); (case hk => exact rfl); (case hd => (first | omega | (simp only [depth_caller, depth_deeper]; decide) | ((have hcL9 := cLine_is); (simp only [units_caller, units_deeper, Around.mark_units]); omega) | ((try simp only [depth_deeper, units_deeper, depth_in1, units_in1]); omega) | fail "room")); (case hu => (first | omega | (simp only [depth_caller, depth_deeper]; decide) | ((have hcL9 := cLine_is); (simp only [units_caller, units_deeper, Around.mark_units]); omega) | ((try simp only [depth_deeper, units_deeper, depth_in1, units_in1]); omega) | fail "room")); (case hpol => exact PolIs.mono (by assumption) (by (repeat' (first | assumption | exact List.forall_mem_nil _ | refine sub_app ?_ ?_ | refine sub_cons ?_ ?_ | k_mem | (intro _ _; k_mem))))); (case hp => exact PreIs.mono (by assumption) (by (repeat' (first | assumption | exact List.forall_mem_nil _ | refine sub_app ?_ ?_ | refine sub_cons ?_ ?_ | k_mem | (intro _ _; k_mem))))); (case hf => exact FactsIs.mono (by assumption) (by (repeat' (first | assumption | exact List.forall_mem_nil _ | refine sub_app ?_ ?_ | refine sub_cons ?_ ?_ | k_mem | (intro _ _; k_mem))))); (case hsub => (repeat' (first | assumption | exact List.forall_mem_nil _ | refine sub_app ?_ ?_ | refine sub_cons ?_ ?_ | k_mem | (intro _ _; k_mem))))
        rintro _ _ h6 tk6 F6 N6 ⟨tl6, rfl, lt6, DT, rfl, hT⟩
        clear lt6
        k_steps
        unfold Stop
        rename News _ _ _ _ => N7
        rename Obj.IsDictOf _ _ kvA => hdK
        rename (_ == sysModules) = false => loK
        refine ne_att (r := xa) N7 (.mk (by k_mem) hdA loA (hkA.mono (by (repeat' (first | assumption | exact List.forall_mem_nil _ | refine sub_app ?_ ?_ | refine sub_cons ?_ ?_ | k_mem | (intro _ _; k_mem)))))) (.mk (by k_mem) hdK loK (hkA.mono (by (repeat' (first | assumption | exact List.forall_mem_nil _ | refine sub_app ?_ ?_ | refine sub_cons ?_ ?_ | k_mem | (intro _ _; k_mem)))))) (by (first | omega | (simp only [depth_caller, depth_deeper]; decide) | ((have hcL9 := cLine_is); (simp only [units_caller, units_deeper, Around.mark_units]); omega) | ((try simp only [depth_deeper, units_deeper, depth_in1, units_in1]); omega) | fail "room")) (by (first | omega | (simp only [depth_caller, depth_deeper]; decide) | ((have hcL9 := cLine_is); (simp only [units_caller, units_deeper, Around.mark_units]); omega) | ((try simp only [depth_deeper, units_deeper, depth_in1, units_in1]); omega) | fail "room")) ?_
        k_steps
        unfold Stop
        refine' ct_use (due_ct (N₀ := tl5 ++ S4) hA2 (hB4.mono sub_right) (hF4.mono sub_right) ?hsub okA (hf.ok _ plain_ok) (hf.ok _ rich_ok) (full4_of hf _)) ?B ?F ?X ?N ?T ?hk ?hd ?hu ?_
        (case B => k_asm); (case F => k_asm); (case X => k_asm); (case N => k_asm); (case T => k_asm); (case hk => exact rfl); (case hd => (first | omega | (simp only [depth_caller, depth_deeper]; decide) | ((have hcL9 := cLine_is); (simp only [units_caller, units_deeper, Around.mark_units]); omega) | ((try simp only [depth_deeper, units_deeper, depth_in1, units_in1]); omega) | fail "room")); (case hu => (first | omega | (simp only [depth_caller, depth_deeper]; decide) | ((have hcL9 := cLine_is); (simp only [units_caller, units_deeper, Around.mark_units]); omega) | ((try simp only [depth_deeper, units_deeper, depth_in1, units_in1]); omega) | fail "room")); (case hsub => (repeat' (first | assumption | exact List.forall_mem_nil _ | refine sub_app ?_ ?_ | refine sub_cons ?_ ?_ | k_mem | (intro _ _; k_mem))))
        rintro _ _ h8 tk8 F8 N8 ⟨tl8, rfl, lt8, DD, rfl, hD⟩
        clear lt8
        rw [← due_is hf xa _ okA] at hD
        k_steps
        unfold Stop
        rename News _ _ _ _ => N9
        refine ne_att (r := f xa) N9 (hT.mono (by (repeat' (first | assumption | exact List.forall_mem_nil _ | refine sub_app ?_ ?_ | refine sub_cons ?_ ?_ | k_mem | (intro _ _; k_mem))))) (hD.mono (by (repeat' (first | assumption | exact List.forall_mem_nil _ | refine sub_app ?_ ?_ | refine sub_cons ?_ ?_ | k_mem | (intro _ _; k_mem))))) (by (first | omega | (simp only [depth_caller, depth_deeper]; decide) | ((have hcL9 := cLine_is); (simp only [units_caller, units_deeper, Around.mark_units]); omega) | ((try simp only [depth_deeper, units_deeper, depth_in1, units_in1]); omega) | fail "room")) (by (first | omega | (simp only [depth_caller, depth_deeper]; decide) | ((have hcL9 := cLine_is); (simp only [units_caller, units_deeper, Around.mark_units]); omega) | ((try simp only [depth_deeper, units_deeper, depth_in1, units_in1]); omega) | fail "room")) ?_
        k_steps
        unfold Stop
        refine' ct_use (polrun2 (N₀ := tl6 ++ (tl5 ++ S4)) hrun ?hpol ?hp hT ?hsub (hf.ok _ okA) ?hf ((hf.org xa).trans orgA) ((hf.two xa).trans twoA)) ?B ?F ?X ?N ?T ?hk ?hd ?hu ?_
        (case B => k_asm); (case F => k_asm); (case X => k_asm); (case N => k_asm); (case T => k_asm); (case hk => exact rfl); (case hd => (first | omega | (simp only [depth_caller, depth_deeper]; decide) | ((have hcL9 := cLine_is); (simp only [units_caller, units_deeper, Around.mark_units]); omega) | ((try simp only [depth_deeper, units_deeper, depth_in1, units_in1]); omega) | fail "room")); (case hu => (first | omega | (simp only [depth_caller, depth_deeper]; decide) | ((have hcL9 := cLine_is); (simp only [units_caller, units_deeper, Around.mark_units]); omega) | ((try simp only [depth_deeper, units_deeper, depth_in1, units_in1]); omega) | fail "room")); (case hpol => exact PolIs.mono (by assumption) (by (repeat' (first | assumption | exact List.forall_mem_nil _ | refine sub_app ?_ ?_ | refine sub_cons ?_ ?_ | k_mem | (intro _ _; k_mem))))); (case hp => exact PreIs.mono (by assumption) (by (repeat' (first | assumption | exact List.forall_mem_nil _ | refine sub_app ?_ ?_ | refine sub_cons ?_ ?_ | k_mem | (intro _ _; k_mem))))); (case hf => exact FactsIs.mono (by assumption) (by (repeat' (first | assumption | exact List.forall_mem_nil _ | refine sub_app ?_ ?_ | refine sub_cons ?_ ?_ | k_mem | (intro _ _; k_mem))))); (case hsub => (repeat' (first | assumption | exact List.forall_mem_nil _ | refine sub_app ?_ ?_ | refine sub_cons ?_ ?_ | k_mem | (intro _ _; k_mem))))
        rintro _ _ h3 tk3 F3 N3 ⟨tl3, rfl, lt3, DG, rfl, hG⟩
        clear lt3
        rw [again_is hf xa okA] at hG
        k_steps
        unfold Stop
        rename News _ _ _ _ => N9
        refine ne_att (r := f xa) N9 (hG.mono (by (repeat' (first | assumption | exact List.forall_mem_nil _ | refine sub_app ?_ ?_ | refine sub_cons ?_ ?_ | k_mem | (intro _ _; k_mem))))) (hT.mono (by (repeat' (first | assumption | exact List.forall_mem_nil _ | refine sub_app ?_ ?_ | refine sub_cons ?_ ?_ | k_mem | (intro _ _; k_mem))))) (by (first | omega | (simp only [depth_caller, depth_deeper]; decide) | ((have hcL9 := cLine_is); (simp only [units_caller, units_deeper, Around.mark_units]); omega) | ((try simp only [depth_deeper, units_deeper, depth_in1, units_in1]); omega) | fail "room")) (by (first | omega | (simp only [depth_caller, depth_deeper]; decide) | ((have hcL9 := cLine_is); (simp only [units_caller, units_deeper, Around.mark_units]); omega) | ((try simp only [depth_deeper, units_deeper, depth_in1, units_in1]); omega) | fail "room")) ?_
        k_steps
        unfold Stop
        rename Fr _ _ _ _ => F8
        rename News _ _ _ _ => N8
        exact LtJ.close F8 N8 (by (repeat' (first | assumption | exact List.forall_mem_nil _ | refine sub_app ?_ ?_ | refine sub_cons ?_ ?_ | k_mem | (intro _ _; k_mem)))) (fun y h1 h2 h3 h4 => by simp [h1, h2, h3, h4]) (hoff _ List.mem_cons_self) (fun q hq => hoff q (List.mem_cons_of_mem _ hq)) (by omega) (by omega)
      case done2 =>
        clear F1 N1 N3 hR1 Nx hkeep lF'
        rintro m₁ news₁ h tk ⟨tv, av, kv, ov, sp', t', rfl, rfl, lo2, hi2⟩ F1 N1
        obtain ⟨hmB, hdB, loB, hkB⟩ := hB4
        rename_i oB kvB
        obtain ⟨hmF, hdF, loF, hkF⟩ := hF4
        rename_i oF kvF
        have ht4 : h₀.IsTuple 123 (names4 385 386 387 388).toArray := ⟨_, hg, rfl, _, rfl⟩
        k_steps
        unfold Stop
        rename Fr _ _ _ _ => F3
        refine listcomp_names (t1 := 385) (t2 := 386) (t3 := 387) (t4 := 388) (news := (b, boxO l n sp' t') :: (L + 1 + 1, oc1) :: (L + 1, oc2) :: S4) (r := f (plainR ⟨x, two, none, none, none, none, []⟩)) F3 rfl (by with_unfolding_all rfl) (by decide) (by with_unfolding_all rfl) (by decide) (by with_unfolding_all rfl) (by intro _; with_unfolding_all rfl) ?_
        k_steps
        unfold Stop
        refine ⟨_, rfl, Heap.IsTuple.at ht4 fun o e => F3.keep _ o e, by k_asm, by k_asm, ?item1, ?cont1⟩
        case item1 =>
          intro C i tj s₂ m₂ E' hi hn hx hk
          obtain ⟨v9, hv9⟩ := (full4_of hf ⟨x, two, none, none, none, none, []⟩).has i
          obtain ⟨t8, hval⟩ := att_val hkB hv9
          k_steps
          · exact ⟨_, by rw [hv9]; rfl⟩
          · (exact ⟨_, _, rfl, fun _ _ e => e⟩)
        case cont1 =>
          intro D1 vs1 n1 h8 tk8 F8 N8 hint1
          k_steps
          unfold Stop
          refine listcomp_names (t1 := 385) (t2 := 386) (t3 := 387) (t4 := 388) (news := (D1, PySem.W.listOf vs1.toArray n1) :: (b, boxO l n sp' t') :: (L + 1 + 1, oc1) :: (L + 1, oc2) :: S4) (r := f (richR ⟨x, two, none, none, none, none, []⟩)) F8 rfl (by with_unfolding_all rfl) (by decide) (by with_unfolding_all rfl) (by decide) (by with_unfolding_all rfl) (by intro _; with_unfolding_all rfl) ?_
          k_steps
          unfold Stop
          refine ⟨_, rfl, Heap.IsTuple.at ht4 fun o e => F8.keep _ o e, by k_asm, by k_asm, ?item2, ?cont2⟩
          case item2 =>
            intro C i tj s₂ m₂ E' hi hn hx hk
            obtain ⟨v9, hv9⟩ := (full4_of hf ⟨x, two, none, none, none, none, []⟩).has i
            rw [← same4 hf] at hv9
            obtain ⟨t8, hval⟩ := att_val hkF hv9
            k_steps
            · exact ⟨_, by rw [hv9]; rfl⟩
            · (exact ⟨_, _, rfl, fun _ _ e => e⟩)
          case cont2 =>
            intro D2 vs2 n2 h9 tk9 F9 N9 hint2
            k_steps
            unfold Stop
            refine eq_intsK (PySem.IsL.isList (N9 (D1, PySem.W.listOf vs1.toArray n1) (by k_mem)).1) hint1 (PySem.IsL.isList (N9 (D2, PySem.W.listOf vs2.toArray n2) (by k_mem)).1) hint2 (by (first | omega | (simp only [depth_caller, depth_deeper]; decide) | ((have hcL9 := cLine_is); (simp only [units_caller, units_deeper, Around.mark_units]); omega) | ((try simp only [depth_deeper, units_deeper, depth_in1, units_in1]); omega) | fail "room")) ?_
            rw [decide_eq_true (same_val4 hf ⟨x, two, none, none, none, none, []⟩)]
            k_steps
            exact hQ _ _ _ (by k_asm)
end
theorem kwlawt54 : True := by
  k_with_none
  k_with "m call builtin:len" => (k_here; (with_reducible show wpAny _ _ (call (Value.builtin "len") [Value.ref _]) _ _ _); k_dflt (refine' len_led ?k1_z ?k2_z ?k3_z ?k4_z ?_; (case k1_z => k_asm); (case k2_z => k_mem); (case k3_z => with_reducible assumption); (case k4_z => omega)))
  k_with "m ite" => (k_closed; with_reducible (first | refine ite_tt ?_ | refine ite_ff ?_ | refine PySem.W.ite_neg (by decide) ?_ | refine PySem.W.ite_pos (by decide) ?_))
  k_with "m subscriptTail" => (k_here; (with_reducible show wpAny _ _ (subscriptTail _ _ (Value.ref _) (Value.int _ _)) _ _ _); k_dflt (first | (refine' sub_list ?N_z ?m_z ?a_z ?b_z ?x_z ?s_z ?_; (case N_z => k_asm); (case m_z => k_mem); (case a_z => decide); (case b_z => decide); (case x_z => rfl); (case s_z => with_unfolding_all rfl)) | (refine' sub_tup ?N_z ?m_z ?a_z ?b_z ?j_z ?x_z ?s_z ?_; (case N_z => k_asm); (case m_z => k_mem); (case a_z => decide); (case b_z => decide); (case j_z => rfl); (case x_z => rfl); (case s_z => with_unfolding_all rfl))))
  k_with "m subscriptTail Name Call ref int" => (k_here; (with_reducible show wpAny _ _ (subscriptTail _ _ (Value.ref _) (Value.int _ _)) _ _ _); k_dflt (first | (refine' sub_list_any ?N_z ?m_z ?a_z ?b_z ?z_z ?s_z ?_; (case N_z => k_asm); (case m_z => k_mem); (case a_z => omega); (case b_z => first | (simp only [List.length_cons, List.length_nil]; omega) | (simp only [List.length_append, List.length_cons, List.length_nil]; omega) | (simp only [List.length_append]; omega)); (case z_z => first | exact Nat.le_of_ble_eq_true rfl | (simp only [List.length_append, List.length_cons, List.length_nil]; omega) | (simp only [List.length_append]; omega)); (case s_z => with_unfolding_all rfl)) | (refine' sub_tup_any ?N_z ?m_z ?a_z ?b_z ?z_z ?s_z ?_; (case N_z => k_asm); (case m_z => k_mem); (case a_z => omega); (case b_z => first | (simp only [List.length_cons, List.length_nil]; omega) | (simp only [List.length_append, List.length_cons, List.length_nil]; omega) | (simp only [List.length_append]; omega)); (case z_z => first | exact Nat.le_of_ble_eq_true rfl | (simp only [List.length_append, List.length_cons, List.length_nil]; omega) | (simp only [List.length_append]; omega)); (case s_z => with_unfolding_all rfl))); intro _ _)
  k_with "m subscriptTail Tuple" => (k_here; (with_reducible show wpAny _ _ (subscriptTail _ _ (Value.ref _) (Value.int _ _)) _ _ _); k_dflt (first | (refine' sub_list_any ?N_z ?m_z ?a_z ?b_z ?z_z ?s_z ?_; (case N_z => k_asm); (case m_z => k_mem); (case a_z => omega); (case b_z => first | (simp only [List.length_cons, List.length_nil]; omega) | (simp only [List.length_append, List.length_cons, List.length_nil]; omega) | (simp only [List.length_append]; omega)); (case z_z => first | exact Nat.le_of_ble_eq_true rfl | (simp only [List.length_append, List.length_cons, List.length_nil]; omega) | (simp only [List.length_append]; omega)); (case s_z => with_unfolding_all rfl)) | (refine' sub_tup_any ?N_z ?m_z ?a_z ?b_z ?z_z ?s_z ?_; (case N_z => k_asm); (case m_z => k_mem); (case a_z => omega); (case b_z => first | (simp only [List.length_cons, List.length_nil]; omega) | (simp only [List.length_append, List.length_cons, List.length_nil]; omega) | (simp only [List.length_append]; omega)); (case z_z => first | exact Nat.le_of_ble_eq_true rfl | (simp only [List.length_append, List.length_cons, List.length_nil]; omega) | (simp only [List.length_append]; omega)); (case s_z => with_unfolding_all rfl))); intro _ _)
  k_with "m subscriptTail List" => (k_here; (with_reducible show wpAny _ _ (subscriptTail _ _ (Value.ref _) (Value.int _ _)) _ _ _); k_dflt (first | (refine' sub_list_any ?N_z ?m_z ?a_z ?b_z ?z_z ?s_z ?_; (case N_z => k_asm); (case m_z => k_mem); (case a_z => omega); (case b_z => first | (simp only [List.length_cons, List.length_nil]; omega) | (simp only [List.length_append, List.length_cons, List.length_nil]; omega) | (simp only [List.length_append]; omega)); (case z_z => first | exact Nat.le_of_ble_eq_true rfl | (simp only [List.length_append, List.length_cons, List.length_nil]; omega) | (simp only [List.length_append]; omega)); (case s_z => with_unfolding_all rfl)) | (refine' sub_tup_any ?N_z ?m_z ?a_z ?b_z ?z_z ?s_z ?_; (case N_z => k_asm); (case m_z => k_mem); (case a_z => omega); (case b_z => first | (simp only [List.length_cons, List.length_nil]; omega) | (simp only [List.length_append, List.length_cons, List.length_nil]; omega) | (simp only [List.length_append]; omega)); (case z_z => first | exact Nat.le_of_ble_eq_true rfl | (simp only [List.length_append, List.length_cons, List.length_nil]; omega) | (simp only [List.length_append]; omega)); (case s_z => with_unfolding_all rfl))); intro _ _)
  k_with "m execs cons" => (k_here; (with_reducible show wpAny _ _ _ _ _ (Shared.mk _ _ _ (_ + 1) _)); refine gen_toks ?_; intro (tk : Nat))
  trivial
theorem law_pack3 {w : World} {h₀ h : Heap} {L b c1 c2 l d pa df : Addr} {o1 o2 op of' : Obj} {full tlp N₀ : Led} {vs : List Value} {n n' : Nat} {sp peer : Int} {t : Tok} {v : Value} {terms : List (List St)} {cc : Bool} {rb : Rt} {k : Nat}
    (N : News h₀ L h full) (hb : (b, boxO l n sp t) ∈ full) (hc1 : (c1, o1) ∈ full) (hc2 : (c2, o2) ∈ full) (hl : (l, PySem.W.listOf vs.toArray n') ∈ full) (hpol : PolIs tlp v terms cc) (s1 : ∀ q ∈ tlp, q ∈ full) (ha : AttIs w N₀ d rb) (s2 : ∀ q ∈ N₀, q ∈ full)
    (hp : PreIs [(pa, op)] pa k) (hpm : (pa, op) ∈ full) (hf : FactsIs w [(df, of')] df peer) (hfm : (df, of') ∈ full) (hc : @LT.lt Nat _ c2 c1)
    (nb : ∀ q ∈ (l, PySem.W.listOf vs.toArray n') :: (df, of') :: (tlp ++ N₀), q.1 ≠ b) (n1 : ∀ q ∈ (l, PySem.W.listOf vs.toArray n') :: (df, of') :: (tlp ++ N₀), @LT.lt Nat _ c1 q.1) (pb : pa ≠ b) (p1 : @LT.lt Nat _ c1 pa) :
    ∃ S : Led, News h₀ L h ((b, boxO l n sp t) :: (c1, o1) :: (c2, o2) :: S) ∧ (l, PySem.W.listOf vs.toArray n') ∈ S ∧ PolIs S v terms cc ∧ AttIs w S d rb ∧ PreIs S pa k ∧ FactsIs w S df peer ∧ (∀ q ∈ S, q.1 ≠ b) ∧ (∀ q ∈ S, q.1 ≠ c1) ∧ (∀ q ∈ S, q.1 ≠ c2) := by
  refine ⟨(pa, op) :: (l, PySem.W.listOf vs.toArray n') :: (df, of') :: (tlp ++ N₀), newsSub N fun q hq => ?_, List.mem_cons_of_mem _ List.mem_cons_self, hpol.mono fun q hq => ?_, ha.mono fun q hq => ?_, hp.mono fun q hq => ?_, hf.mono fun q hq => ?_, List.forall_mem_cons.mpr ⟨pb, nb⟩,
    List.forall_mem_cons.mpr ⟨Nat.ne_of_gt p1, fun q hq => Nat.ne_of_gt (n1 q hq)⟩, List.forall_mem_cons.mpr ⟨Nat.ne_of_gt (Nat.lt_trans hc p1), fun q hq => Nat.ne_of_gt (Nat.lt_trans hc (n1 q hq))⟩⟩
  · simp only [List.mem_cons, List.mem_append] at hq
    rcases hq with rfl | rfl | rfl | rfl | rfl | rfl | hq | hq
    · exact hb
    · exact hc1
    · exact hc2
    · exact hpm
    · exact hl
    · exact hfm
    · exact s1 q hq
    · exact s2 q hq
  · simp only [List.mem_cons, List.mem_append]; exact .inr (.inr (.inr (.inl hq)))
  · simp only [List.mem_cons, List.mem_append]; exact .inr (.inr (.inr (.inr hq)))
  · rw [List.mem_singleton.mp hq]; exact List.mem_cons_self
  · rw [List.mem_singleton.mp hq]; exact List.mem_cons_of_mem _ (List.mem_cons_of_mem _ List.mem_cons_self)

def Flag : Prop := True
def Flag2 : Prop := True
section
theorem kwlawx55 : True := by
  k_with_none
  k_with "m call builtin:len" => (k_here; (with_reducible show wpAny _ _ (call (Value.builtin "len") [Value.ref _]) _ _ _); k_dflt (refine' len_led ?k1_z ?k2_z ?k3_z ?k4_z ?_; (case k1_z => k_asm); (case k2_z => k_mem); (case k3_z => with_reducible assumption); (case k4_z => omega)))
  k_with "m ite" => (k_closed; with_reducible (first | refine ite_tt ?_ | refine ite_ff ?_ | refine PySem.W.ite_neg (by decide) ?_ | refine PySem.W.ite_pos (by decide) ?_))
  k_with "m subscriptTail" => (k_here; (with_reducible show wpAny _ _ (subscriptTail _ _ (Value.ref _) (Value.int _ _)) _ _ _); k_dflt (first | (refine' sub_list ?N_z ?m_z ?a_z ?b_z ?x_z ?s_z ?_; (case N_z => k_asm); (case m_z => k_mem); (case a_z => decide); (case b_z => decide); (case x_z => rfl); (case s_z => with_unfolding_all rfl)) | (refine' sub_tup ?N_z ?m_z ?a_z ?b_z ?j_z ?x_z ?s_z ?_; (case N_z => k_asm); (case m_z => k_mem); (case a_z => decide); (case b_z => decide); (case j_z => rfl); (case x_z => rfl); (case s_z => with_unfolding_all rfl))))
  k_with "m subscriptTail Name Call ref int" => (k_here; (with_reducible show wpAny _ _ (subscriptTail _ _ (Value.ref _) (Value.int _ _)) _ _ _); k_dflt (first | (refine' sub_list_any ?N_z ?m_z ?a_z ?b_z ?z_z ?s_z ?_; (case N_z => k_asm); (case m_z => k_mem); (case a_z => omega); (case b_z => first | (simp only [List.length_cons, List.length_nil]; omega) | (simp only [List.length_append, List.length_cons, List.length_nil]; omega) | (simp only [List.length_append]; omega)); (case z_z => first | exact Nat.le_of_ble_eq_true rfl | (simp only [List.length_append, List.length_cons, List.length_nil]; omega) | (simp only [List.length_append]; omega)); (case s_z => with_unfolding_all rfl)) | (refine' sub_tup_any ?N_z ?m_z ?a_z ?b_z ?z_z ?s_z ?_; (case N_z => k_asm); (case m_z => k_mem); (case a_z => omega); (case b_z => first | (simp only [List.length_cons, List.length_nil]; omega) | (simp only [List.length_append, List.length_cons, List.length_nil]; omega) | (simp only [List.length_append]; omega)); (case z_z => first | exact Nat.le_of_ble_eq_true rfl | (simp only [List.length_append, List.length_cons, List.length_nil]; omega) | (simp only [List.length_append]; omega)); (case s_z => with_unfolding_all rfl))); intro _ _)
  k_with "m subscriptTail Tuple" => (k_here; (with_reducible show wpAny _ _ (subscriptTail _ _ (Value.ref _) (Value.int _ _)) _ _ _); k_dflt (first | (refine' sub_list_any ?N_z ?m_z ?a_z ?b_z ?z_z ?s_z ?_; (case N_z => k_asm); (case m_z => k_mem); (case a_z => omega); (case b_z => first | (simp only [List.length_cons, List.length_nil]; omega) | (simp only [List.length_append, List.length_cons, List.length_nil]; omega) | (simp only [List.length_append]; omega)); (case z_z => first | exact Nat.le_of_ble_eq_true rfl | (simp only [List.length_append, List.length_cons, List.length_nil]; omega) | (simp only [List.length_append]; omega)); (case s_z => with_unfolding_all rfl)) | (refine' sub_tup_any ?N_z ?m_z ?a_z ?b_z ?z_z ?s_z ?_; (case N_z => k_asm); (case m_z => k_mem); (case a_z => omega); (case b_z => first | (simp only [List.length_cons, List.length_nil]; omega) | (simp only [List.length_append, List.length_cons, List.length_nil]; omega) | (simp only [List.length_append]; omega)); (case z_z => first | exact Nat.le_of_ble_eq_true rfl | (simp only [List.length_append, List.length_cons, List.length_nil]; omega) | (simp only [List.length_append]; omega)); (case s_z => with_unfolding_all rfl))); intro _ _)
  k_with "m subscriptTail List" => (k_here; (with_reducible show wpAny _ _ (subscriptTail _ _ (Value.ref _) (Value.int _ _)) _ _ _); k_dflt (first | (refine' sub_list_any ?N_z ?m_z ?a_z ?b_z ?z_z ?s_z ?_; (case N_z => k_asm); (case m_z => k_mem); (case a_z => omega); (case b_z => first | (simp only [List.length_cons, List.length_nil]; omega) | (simp only [List.length_append, List.length_cons, List.length_nil]; omega) | (simp only [List.length_append]; omega)); (case z_z => first | exact Nat.le_of_ble_eq_true rfl | (simp only [List.length_append, List.length_cons, List.length_nil]; omega) | (simp only [List.length_append]; omega)); (case s_z => with_unfolding_all rfl)) | (refine' sub_tup_any ?N_z ?m_z ?a_z ?b_z ?z_z ?s_z ?_; (case N_z => k_asm); (case m_z => k_mem); (case a_z => omega); (case b_z => first | (simp only [List.length_cons, List.length_nil]; omega) | (simp only [List.length_append, List.length_cons, List.length_nil]; omega) | (simp only [List.length_append]; omega)); (case z_z => first | exact Nat.le_of_ble_eq_true rfl | (simp only [List.length_append, List.length_cons, List.length_nil]; omega) | (simp only [List.length_append]; omega)); (case s_z => with_unfolding_all rfl))); intro _ _)
  k_with "m execs cons" => (k_here; (with_reducible show wpAny _ _ _ _ _ (Shared.mk _ _ _ (_ + 1) _)); refine gen_toks ?_; intro (tk : Nat))
  k_with "m KdnMade" => (k_dflt (refine' kdn_led ?F_z ?N_z ?U_z ?hne_z ?hd_z ?hk_z ?hn_z ?_; (case F_z => k_asm); (case N_z => k_asm); (case U_z => (repeat (first | exact Pull.here | apply Pull.there | apply Pull.app))); (case hd_z => assumption); (case hk_z => rfl); (case hn_z => exact of_decide_eq_true (by rfl)); (case hne_z => (repeat' (first | assumption | refine List.forall_mem_cons.mpr ⟨?_, ?_⟩ | refine List.forall_mem_append.mpr ⟨?_, ?_⟩ | exact List.forall_mem_nil _ | exact ne_of_abv1 (by assumption) | exact ne_of_abv2 (by assumption) (by k_mem) | exact ne_of_all (by assumption) (by k_mem) | exact ne_of_low1 (by assumption) (by k_mem) | exact ne_of_low (by assumption) (by (repeat' (first | assumption | exact List.forall_mem_nil _ | refine sub_app ?_ ?_ | refine sub_cons ?_ ?_ | k_mem | (intro _ _; k_mem)))))))); intro _ _ _ _ _; (try k_sweep))
  k_with "m getMethod ref" => (k_here; (with_reducible show wpAny _ _ (getMethod (Value.ref _) (Str.ofString "items") _) _ _ _); k_dflt (refine' kdl_method (knd := PySem.strKind _ _) PySem.F.slot_dict_items PySem.F.type_dict_items ?N_z ?p_z ?d_z ?_; (case N_z => k_asm); (case p_z => k_mem); (case d_z => assumption)))
  k_with "m call builtin:dict.items" => (k_here; (show wpAny _ _ (call (Value.builtin "dict.items") [Value.ref _]) _ _ _); k_dflt (refine' kdx_view (knd := PySem.strKind _ _) ?F_z ?N_z ?p_z ?d_z ?lo_z ?_; (case F_z => k_asm); (case N_z => k_asm); (case p_z => k_mem); (case d_z => assumption); (case lo_z => assumption)); intro _ _ _ _ _; (try k_sweep))
  k_with "m call type:list" => (k_here; (with_reducible show wpAny _ _ (call (Value.type "list") [Value.ref _]) _ _ _); k_dflt (refine' items_led rfl ?F_z ?N_z ?v_z ?m_z ?d_z ?z_z ?_; (case F_z => k_asm); (case N_z => k_asm); (case v_z => k_mem); (case m_z => k_mem); (case d_z => assumption); (case z_z => omega)); intro _ _ _ _ _ _ _ _ _ _ _; (try k_sweep))
  k_with "m call type:dict" => (k_here; (with_reducible show wpAny _ _ (call (Value.type "dict") [Value.ref _]) _ _ _); k_dflt (refine' dict_pairs rfl ?F_z ?N_z ?l_z ?p_z ?n_z ?lim_z ?z_z ?_; (case F_z => k_asm); (case N_z => k_asm); (case l_z => k_mem); (case p_z => exact PairsAre.mono (by assumption) (by (repeat' (first | assumption | exact List.forall_mem_nil _ | refine sub_app ?_ ?_ | refine sub_cons ?_ ?_ | k_mem | (intro _ _; k_mem))))); (case n_z => first | assumption | exact dict_nodup (by assumption)); (case lim_z => exact Top.nolimit (by assumption)); (case z_z => omega)); intro _ _ _ _ _ _ _ _ _; (try k_sweep))
  k_with "m setItem ref str" => (k_here; (with_reducible show wpAny _ _ (setItem (Value.ref _) (Value.str _ _) _) _ _ _); k_dflt (refine' set_led ?F_z ?N_z ?U_z ?hne_z ?hd_z ?hz_z ?_; (case F_z => k_asm); (case N_z => k_asm); (case U_z => (repeat (first | exact Pull.here | apply Pull.there | apply Pull.app))); (case hd_z => assumption); (case hne_z => (repeat' (first | assumption | refine List.forall_mem_cons.mpr ⟨?_, ?_⟩ | refine List.forall_mem_append.mpr ⟨?_, ?_⟩ | exact List.forall_mem_nil _ | exact ne_of_abv1 (by assumption) | exact ne_of_abv2 (by assumption) (by k_mem) | exact ne_of_all (by assumption) (by k_mem) | exact ne_of_low1 (by assumption) (by k_mem) | exact ne_of_low (by assumption) (by (repeat' (first | assumption | exact List.forall_mem_nil _ | refine sub_app ?_ ?_ | refine sub_cons ?_ ?_ | k_mem | (intro _ _; k_mem))))))); (case hz_z => omega)); intro _ _ _ _ _; (try k_sweep))
  k_with "m call ref" => ((k_here; (with_reducible show wpAny _ _ (call (Value.ref 130) _) _ _ _); first | (k_dflt (refine' ct_use (draw_ct ?hI_z ?hlen_z ?hl_z ?hb_z ?hm_z ?hm2_z ?h0_z ?h1_z) ?B_z ?F_z ?X_z (newsPull ?N_z ?U_z) ?T_z ?hk_z ?hd_z ?hu_z ?_; (case N_z => k_asm); (case U_z => (repeat (first | exact Pull.here | apply Pull.there | apply Pull.app))); (case B_z => k_asm); (case F_z => k_asm); (case X_z => k_asm); (case T_z => k_asm); (case hk_z => first | exact rfl | assumption); (case hd_z => (first | omega | (simp only [depth_caller, depth_deeper]; decide) | ((have hcL9 := cLine_is); (simp only [units_caller, units_deeper, Around.mark_units]); omega) | ((try simp only [depth_deeper, units_deeper, depth_in1, units_in1]); omega) | fail "room")); (case hu_z => (first | omega | (simp only [depth_caller, depth_deeper]; decide) | ((have hcL9 := cLine_is); (simp only [units_caller, units_deeper, Around.mark_units]); omega) | ((try simp only [depth_deeper, units_deeper, depth_in1, units_in1]); omega) | fail "room")); (case hl_z => k_mem); (case hI_z => assumption); (case hlen_z => assumption); (case hb_z => (repeat' (first | assumption | refine List.forall_mem_cons.mpr ⟨?_, ?_⟩ | refine List.forall_mem_append.mpr ⟨?_, ?_⟩ | exact List.forall_mem_nil _ | exact ne_of_abv1 (by assumption) | exact ne_of_abv2 (by assumption) (by k_mem) | exact ne_of_all (by assumption) (by k_mem) | exact ne_of_low1 (by assumption) (by k_mem) | exact ne_of_low (by assumption) (by (repeat' (first | assumption | exact List.forall_mem_nil _ | refine sub_app ?_ ?_ | refine sub_cons ?_ ?_ | k_mem | (intro _ _; k_mem))))))); (case hm_z => decide); (case hm2_z => decide); (case h0_z => omega); (case h1_z => omega)); intro _ _ _ _ _ _ P9; obtain ⟨_, _, _, e9, _, _, en9⟩ := P9; subst e9; subst en9; (try dsimp only)) | refine stop_of ?_))
  k_with "m call ref" => (k_here; (with_reducible show wpAny _ _ (call (Value.ref 151) _) _ _ _); first | (k_dflt (refine' ct_use (policy_ct ?hI_z ?hlen_z ?hl_z ?hb_z ?h0_z ?h1_z) ?B_z ?F_z ?X_z (newsPull ?N_z ?U_z) ?T_z ?hk_z ?hd_z ?hu_z ?_; (case N_z => k_asm); (case U_z => (repeat (first | exact Pull.here | apply Pull.there | apply Pull.app))); (case B_z => k_asm); (case F_z => k_asm); (case X_z => k_asm); (case T_z => k_asm); (case hk_z => first | exact rfl | assumption); (case hd_z => (first | omega | (simp only [depth_caller, depth_deeper]; decide) | ((have hcL9 := cLine_is); (simp only [units_caller, units_deeper, Around.mark_units]); omega) | ((try simp only [depth_deeper, units_deeper, depth_in1, units_in1]); omega) | fail "room")); (case hu_z => (first | omega | (simp only [depth_caller, depth_deeper]; decide) | ((have hcL9 := cLine_is); (simp only [units_caller, units_deeper, Around.mark_units]); omega) | ((try simp only [depth_deeper, units_deeper, depth_in1, units_in1]); omega) | fail "room")); (case hl_z => k_mem); (case hI_z => assumption); (case hlen_z => assumption); (case hb_z => (repeat' (first | assumption | refine List.forall_mem_cons.mpr ⟨?_, ?_⟩ | refine List.forall_mem_append.mpr ⟨?_, ?_⟩ | exact List.forall_mem_nil _ | exact ne_of_abv1 (by assumption) | exact ne_of_abv2 (by assumption) (by k_mem) | exact ne_of_all (by assumption) (by k_mem) | exact ne_of_low1 (by assumption) (by k_mem) | exact ne_of_low (by assumption) (by (repeat' (first | assumption | exact List.forall_mem_nil _ | refine sub_app ?_ ?_ | refine sub_cons ?_ ?_ | k_mem | (intro _ _; k_mem))))))); (case h0_z => omega); (case h1_z => omega); intro _ _ _ _ _ _ P9; obtain ⟨_, _, _, en9, ab9, _, _, _, _, _⟩ := P9; subst en9; have ab9' := ab9.1; (try dsimp only))) | refine stop_of ?_)
  k_with "m pyIter ref" => refine stop_of ?_
  k_with "m UnrEnd" => refine stop_of ?_
  k_with "m exec For Name Name cons nil" => (k_here; (rename Fr _ _ _ _ => lF'); (with_unfolding_all refine' For_invVF lF' ?k1_z ?k2_z ?_; (case k1_z => exact rfl); (case k2_z => exact rfl); k_whole))
  k_with "m exec For Name Call cons nil" => (k_here; (rename Fr _ _ _ _ => lF'); (with_unfolding_all refine' For_invVF lF' ?k1_z ?k2_z ?_; (case k1_z => exact rfl); (case k2_z => exact rfl); k_whole))
  k_with "m eval ListComp" => refine stop_of ?_
  k_with "m evalPart none" => ((rename Flag => fl9); refine stop_of ?_)
  k_with "m KdnMade" => ((rename Flag2 => fl9); refine stop_of ?_)
  k_with "m call ref" => (k_here; (with_reducible show wpAny _ _ (call (Value.ref 122) _) _ _ _); refine stop_of ?_)
  k_with "m call ref" => (k_here; (with_reducible show wpAny _ _ (call (Value.ref 156) _) _ _ _); refine stop_of ?_)
  k_with "m call ref" => (k_here; (with_reducible show wpAny _ _ (call (Value.ref 161) _) _ _ _); refine stop_of ?_)
  k_with "m execs cons" => (k_here; (with_reducible show wpAny _ _ (execs (Stmt.Assign [PySem.Expr.Name (Str.ofString "plain") _] _ _ :: _) _) _ _ _); refine stop_of ?_)
  trivial
theorem lawx : Challenge.rw_sj0179_01.Holds := by
  refine holds_law Mine.hd.said fun said => ?_
  refine holds_open (q := Mine.hd.view_39) (loose := [Str.ofString "FIELDS", Str.ofString "ENDS"]) (Xt := Mine.hd.seen) (XP := XL Mine.hd.view_39 []) (Yf := Hook.obs Mine.hd.hook) (Ya := Hook.val Mine.hd.hook) (YP := Hook.says Mine.hd.hook) (N := 2068) Mine.hd.left (Hook.of Mine.hd.hook) (Hook.keeps Mine.hd.hook) (fun s e => xl_of s (Bool.and_eq_true_iff.mp e).1) XL.keeps (by rfl) (by rfl) (by rfl) (fun s e => recFacts_of (Bool.and_eq_true_iff.mp e).2) (by rfl) said Mine.hd.good Mine.hd.bare Mine.hd.asks ?_
  unfold Mine.hd.hook
  k_go0
  all_goals try (rename Glob _ _ _ _ _ _ _ _ => gl9; clear gl9)
  all_goals try k_fold
  k_steps
  unfold Stop
  rename Fr _ _ _ _ => F1
  rename IntsAre _ (List.take 48 _) => hI1
  obtain ⟨ns, hI, hlen⟩ : ∃ ns, IntsAre _ ns ∧ ns.length ≤ 48 := ⟨_, hI1, List.length_take_le _ _⟩
  obtain ⟨m0, F2⟩ : ∃ f : Str → Option Value, Fr _ _ _ (fun y => if y = Str.ofString "box" then some (Value.ref _) else f y) := ⟨_, F1⟩
  clear hI1 F1
  have fl : Flag := trivial
  k_steps
  unfold Stop
  refine evalPart_none_step (evalPart_none_step ?_)
  refine kba_turn (value' := .Name (Str.ofString "box") ⟨1, 1, 1, 1⟩) (fun _ => rfl) ?_
  refine slice_two (by k_asm) (by k_asm) (by k_mem) (by assumption) (by assumption) ?_ (by with_unfolding_all rfl) (fun _ => rfl)
  intro r2 tl2 h2 F2' N2' lt2 hx2
  have ab2 : Abv _ _ tl2 := ⟨fun q hq => lt2 q hq _ List.mem_cons_self, lt2⟩
  have ab2' := ab2.1
  rename Flag => fl
  clear fl
  have fl2 : Flag2 := trivial
  k_steps
  unfold Stop
  (k_dflt (refine' kdn_led ?F ?N ?U ?hne ?hd ?hk ?hn ?_; (case F => k_asm); (case N => k_asm); (case U => (repeat (first | exact Pull.here | apply Pull.there | apply Pull.app))); (case hd => assumption); (case hk => rfl); (case hn => exact of_decide_eq_true (by rfl)); (case hne => (repeat' (first | assumption | refine List.forall_mem_cons.mpr ⟨?_, ?_⟩ | refine List.forall_mem_append.mpr ⟨?_, ?_⟩ | exact List.forall_mem_nil _ | exact ne_of_abv1 (by assumption) | exact ne_of_abv2 (by assumption) (by k_mem) | exact ne_of_all (by assumption) (by k_mem) | exact ne_of_low1 (by assumption) (by k_mem) | exact ne_of_low (by assumption) (by (repeat' (first | assumption | exact List.forall_mem_nil _ | refine sub_app ?_ ?_ | refine sub_cons ?_ ?_ | k_mem | (intro _ _; k_mem)))))))); intro h' o' F' N' hd'; (try k_sweep))
  rename Flag2 => fl2
  clear fl2
  rename Obj.IsDictOf _ _ (strPairs _) => hd9
  rename News _ _ _ _ => N9
  rename (_ == sysModules) = false => lo9
  obtain ⟨kvb, two, hdb, hzb, hab, hkb⟩ := mk_base2 N9 lo9 hd9 rfl (by k_mem) (by k_mem) (by k_mem) hx2
  clear hd9
  k_steps
  unfold Stop
  rename Fr _ _ _ _ => F1
  rename News _ _ _ _ => N1
  rename Frag.In _ _ => X1
  rename PolIs _ _ _ _ => hpol
  rename (_ : Value) ∈ [Value.ref _, Value.ref _, Value.ref _] => hv9
  rename Obj.IsDictOf _ _ (strPairs _) => hdf
  obtain ⟨pa, kp, op, rfl, hpre, hpm, hpa⟩ := pre_pick2 N1 hv9 (by k_mem) (by k_mem) (by k_mem) (by decide) (by decide) (by decide)
  obtain ⟨hfa, hfm⟩ := mk_facts2 N1 hdf (by k_mem) (by with_reducible assumption) rfl
  obtain ⟨S, NS, hlS, hpolS, habS, hpreS, hfaS, nb, n1, n2⟩ := law_pack3 (c1 := _ + 1 + 1) (c2 := _ + 1) N1 (by k_mem) (by k_mem) (by k_mem) (by k_mem) hpol (by (repeat' (first | assumption | exact List.forall_mem_nil _ | refine sub_app ?_ ?_ | refine sub_cons ?_ ?_ | k_mem | (intro _ _; k_mem)))) hab (by (repeat' (first | assumption | exact List.forall_mem_nil _ | refine sub_app ?_ ?_ | refine sub_cons ?_ ?_ | k_mem | (intro _ _; k_mem)))) hpre hpm hfa hfm (Nat.lt_succ_self _)
    (List.forall_mem_cons.mpr ⟨ne_of_low1 (by with_reducible assumption) (by k_mem), List.forall_mem_cons.mpr ⟨ne_of_all (by with_reducible assumption) (by k_mem), List.forall_mem_append.mpr ⟨ne_of_abv ab9', List.forall_mem_cons.mpr ⟨ne_of_all (by with_reducible assumption) (by k_mem), List.forall_mem_cons.mpr ⟨ne_of_all (by with_reducible assumption) (by k_mem), List.forall_mem_cons.mpr ⟨ne_of_all (by with_reducible assumption) (by k_mem), List.forall_mem_cons.mpr ⟨ne_of_all (by with_reducible assumption) (by k_mem), ne_of_abv ab2'⟩⟩⟩⟩⟩⟩⟩)
    (List.forall_mem_cons.mpr ⟨lt_of_all (by with_reducible assumption) (by k_mem), List.forall_mem_cons.mpr ⟨lt_of_all (by with_reducible assumption) (by k_mem), List.forall_mem_append.mpr ⟨fun q hq => ab9.2 q hq (_, _) (by k_mem), List.forall_mem_cons.mpr ⟨lt_of_all (by with_reducible assumption) (by k_mem), List.forall_mem_cons.mpr ⟨lt_of_all (by with_reducible assumption) (by k_mem), List.forall_mem_cons.mpr ⟨lt_of_all (by with_reducible assumption) (by k_mem), List.forall_mem_cons.mpr ⟨lt_of_all (by with_reducible assumption) (by k_mem), fun q hq => lt2 q hq (_, _) (by k_mem)⟩⟩⟩⟩⟩⟩⟩)
    (by rcases hpa with rfl | rfl | rfl <;> exact Nat.ne_of_gt (lt_of_all (by with_reducible assumption) (by k_mem))) (by rcases hpa with rfl | rfl | rfl <;> exact lt_of_all (by with_reducible assumption) (by k_mem))
  clear N1
  have tl := fun w => law_tail w _ _ _ rfl
  refine tl _ _ _ _ _ _ _ _ _ _ _ _ _ _ _ _ _ _ _ _ _ _ _ _ _ _ _ _ _ _ _ _ _ _ (by k_asm) F1 X1 NS (by k_asm) (by k_asm) (by k_asm) hI hlen hlS hpolS habS hpreS hfaS nb n1 n2 (lt_of_all (by with_reducible assumption) (by k_mem)) (by omega) (by omega) ?hQ ?hE
  case hQ =>
    intro h tk m F5
    k_steps
  case hE => passes_own
end

end Mine
theorem PySem.Challenge.cw_sj0179_01_holds : PySem.Challenge.rw_sj0179_01.Holds :=
  Mine.lawx
