import PyProof.Rows.All
import Wide.All
import OpenK.AllK
import Wide.FinOn
import Lean
import PySem.Challenge.RW_pq0938_01
set_option Elab.async false
set_option compiler.extract_closed false
set_option maxRecDepth 100000
open PySem PySem.W PyProof.Rows
namespace Mine
local macro_rules | `(tactic| walk_at "mine ctx") => `(tactic| ((case k1 => k_asm); (case k2 => k_asm); (case k3 => k_asm); (case k4 => k_asm); (case k5 => k_asm); (case kK => first | exact rfl | assumption); (case kd => ktr_room); (case ku => ktr_units)))
-- HeadC
section
open PySem PySem.W PyProof.Rows PySem.Calls
set_option maxHeartbeats 8000000
/-- a def's parts, taken out of the given program by its place -/
noncomputable def partsOf : Stmt → Arguments × List Stmt × Scope
  | .FunctionDef _ p b _ _ _ s _ _ _ => (p, b, s)
  | _ => default
noncomputable def fnAt (i : Nat) : Arguments × List Stmt × Scope :=
  if i = 1000 then (match PySem.Challenge.pw_pq0938_01.main.body.getD 1 default with | .ClassDef _ _ _ b _ _ _ _ _ _ _ => partsOf (b.getD 0 default) | _ => default) else partsOf (PySem.Challenge.pw_pq0938_01.main.body.getD i default)
noncomputable def hd.heap_39 : Params → Frag := fun P => (fun (p10 : Arguments) (b10 : List Stmt) (s10 : Scope) (_ : fnAt 10 = (p10, b10, s10)) (p16 : Arguments) (b16 : List Stmt) (s16 : Scope) (_ : fnAt 16 = (p16, b16, s16)) (p17 : Arguments) (b17 : List Stmt) (s17 : Scope) (_ : fnAt 17 = (p17, b17, s17)) (p21 : Arguments) (b21 : List Stmt) (s21 : Scope) (_ : fnAt 21 = (p21, b21, s21)) (p22 : Arguments) (b22 : List Stmt) (s22 : Scope) (_ : fnAt 22 = (p22, b22, s22)) (p23 : Arguments) (b23 : List Stmt) (s23 : Scope) (_ : fnAt 23 = (p23, b23, s23)) (p24 : Arguments) (b24 : List Stmt) (s24 : Scope) (_ : fnAt 24 = (p24, b24, s24)) (p25 : Arguments) (b25 : List Stmt) (s25 : Scope) (_ : fnAt 25 = (p25, b25, s25)) (p26 : Arguments) (b26 : List Stmt) (s26 : Scope) (_ : fnAt 26 = (p26, b26, s26)) (p27 : Arguments) (b27 : List Stmt) (s27 : Scope) (_ : fnAt 27 = (p27, b27, s27)) (p28 : Arguments) (b28 : List Stmt) (s28 : Scope) (_ : fnAt 28 = (p28, b28, s28)) (p29 : Arguments) (b29 : List Stmt) (s29 : Scope) (_ : fnAt 29 = (p29, b29, s29)) (p30 : Arguments) (b30 : List Stmt) (s30 : Scope) (_ : fnAt 30 = (p30, b30, s30)) (p31 : Arguments) (b31 : List Stmt) (s31 : Scope) (_ : fnAt 31 = (p31, b31, s31)) (p32 : Arguments) (b32 : List Stmt) (s32 : Scope) (_ : fnAt 32 = (p32, b32, s32)) (p33 : Arguments) (b33 : List Stmt) (s33 : Scope) (_ : fnAt 33 = (p33, b33, s33)) (p37 : Arguments) (b37 : List Stmt) (s37 : Scope) (_ : fnAt 37 = (p37, b37, s37)) (p38 : Arguments) (b38 : List Stmt) (s38 : Scope) (_ : fnAt 38 = (p38, b38, s38)) (p39 : Arguments) (b39 : List Stmt) (s39 : Scope) (_ : fnAt 39 = (p39, b39, s39)) (p40 : Arguments) (b40 : List Stmt) (s40 : Scope) (_ : fnAt 40 = (p40, b40, s40)) (p41 : Arguments) (b41 : List Stmt) (s41 : Scope) (_ : fnAt 41 = (p41, b41, s41)) (p42 : Arguments) (b42 : List Stmt) (s42 : Scope) (_ : fnAt 42 = (p42, b42, s42)) (p43 : Arguments) (b43 : List Stmt) (s43 : Scope) (_ : fnAt 43 = (p43, b43, s43)) (p1000 : Arguments) (b1000 : List Stmt) (s1000 : Scope) (_ : fnAt 1000 = (p1000, b1000, s1000)) => (((nat_lit 2, { cls := Value.none, data := Data.dict #[{ hash := PyData.keyHash P (Str.ofString "type.__subclasses__.Exception.0"), key := Value.str (Str.ofString "type.__subclasses__.Exception.0") 225, val := Value.int 39 0 }, { hash := PyData.keyHash P (Str.ofString "type.__subclasses__.Exception.n"), key := Value.str (Str.ofString "type.__subclasses__.Exception.n") 226, val := Value.int 1 0 }] 2 }) ::
  (nat_lit 3, { cls := Value.type "dict", data := Data.dict #[{ hash := PyData.keyHash P (Str.ofString "__name__"), key := Value.str (Str.ofString "__name__") 165, val := Value.str (Str.ofString "law_pq0938_01") 481 }, { hash := PyData.keyHash P (Str.ofString "__doc__"), key := Value.str (Str.ofString "__doc__") 166, val := Value.none }, { hash := PyData.keyHash P (Str.ofString "__package__"), key := Value.str (Str.ofString "__package__") 167, val := Value.none }, { hash := PyData.keyHash P (Str.ofString "__loader__"), key := Value.str (Str.ofString "__loader__") 168, val := Value.builtin "__main__.__loader__#opaque" }, { hash := PyData.keyHash P (Str.ofString "__spec__"), key := Value.str (Str.ofString "__spec__") 169, val := Value.none }, { hash := PyData.keyHash P (Str.ofString "__annotations__"), key := Value.str (Str.ofString "__annotations__") 170, val := Value.ref 6 }, { hash := PyData.keyHash P (Str.ofString "__builtins__"), key := Value.str (Str.ofString "__builtins__") 171, val := Value.ref 4 }, { hash := PyData.keyHash P (Str.ofString "__file__"), key := Value.str (Str.ofString "__file__") 173, val := Value.str (Str.ofString "/claim/cut.py") 172 }, { hash := PyData.keyHash P (Str.ofString "__cached__"), key := Value.str (Str.ofString "__cached__") 174, val := Value.none }, { hash := PyData.keyHash P (Str.ofString "PostError"), key := Value.str (Str.ofString "PostError") 228, val := Value.ref 39 }, { hash := PyData.keyHash P (Str.ofString "MimeFault"), key := Value.str (Str.ofString "MimeFault") 244, val := Value.ref 52 }, { hash := PyData.keyHash P (Str.ofString "NameFault"), key := Value.str (Str.ofString "NameFault") 260, val := Value.ref 64 }, { hash := PyData.keyHash P (Str.ofString "worth_table"), key := Value.str (Str.ofString "worth_table") 268, val := Value.ref 71 }, { hash := PyData.keyHash P (Str.ofString "group_octets"), key := Value.str (Str.ofString "group_octets") 274, val := Value.ref 76 }, { hash := PyData.keyHash P (Str.ofString "part_numbers"), key := Value.str (Str.ofString "part_numbers") 284, val := Value.ref 83 }, { hash := PyData.keyHash P (Str.ofString "part_decoded"), key := Value.str (Str.ofString "part_decoded") 298, val := Value.ref 90 }, { hash := PyData.keyHash P (Str.ofString "upper_text"), key := Value.str (Str.ofString "upper_text") 306, val := Value.ref 95 }, { hash := PyData.keyHash P (Str.ofString "DELIMITER"), key := Value.str (Str.ofString "DELIMITER") 310, val := Value.str (Str.ofString "/") 309 }, { hash := PyData.keyHash P (Str.ofString "INBOX"), key := Value.str (Str.ofString "INBOX") 312, val := Value.str (Str.ofString "INBOX") 311 }, { hash := PyData.keyHash P (Str.ofString "WILD_SIGNS"), key := Value.str (Str.ofString "WILD_SIGNS") 314, val := Value.str (Str.ofString "%*") 313 }, { hash := PyData.keyHash P (Str.ofString "SHIFT_SIGNS"), key := Value.str (Str.ofString "SHIFT_SIGNS") 316, val := Value.bytes #[65, 66, 67, 68, 69, 70, 71, 72, 73, 74, 75, 76, 77, 78, 79, 80, 81, 82, 83, 84, 85, 86, 87, 88, 89, 90, 97, 98, 99, 100, 101, 102, 103, 104, 105, 106, 107, 108, 109, 110, 111, 112, 113, 114, 115, 116, 117, 118, 119, 120, 121, 122, 48, 49, 50, 51, 52, 53, 54, 55, 56, 57, 43, 44] 315 }, { hash := PyData.keyHash P (Str.ofString "is_plain_code"), key := Value.str (Str.ofString "is_plain_code") 323, val := Value.ref 102 }, { hash := PyData.keyHash P (Str.ofString "is_half"), key := Value.str (Str.ofString "is_half") 330, val := Value.ref 109 }, { hash := PyData.keyHash P (Str.ofString "shift_behind"), key := Value.str (Str.ofString "shift_behind") 339, val := Value.ref 116 }, { hash := PyData.keyHash P (Str.ofString "units_text"), key := Value.str (Str.ofString "units_text") 352, val := Value.ref 123 }, { hash := PyData.keyHash P (Str.ofString "shifted_text"), key := Value.str (Str.ofString "shifted_text") 363, val := Value.ref 130 }, { hash := PyData.keyHash P (Str.ofString "utf7_text"), key := Value.str (Str.ofString "utf7_text") 375, val := Value.ref 137 }, { hash := PyData.keyHash P (Str.ofString "first_part"), key := Value.str (Str.ofString "first_part") 383, val := Value.ref 144 }, { hash := PyData.keyHash P (Str.ofString "normal_name"), key := Value.str (Str.ofString "normal_name") 392, val := Value.ref 151 }, { hash := PyData.keyHash P (Str.ofString "is_barred_code"), key := Value.str (Str.ofString "is_barred_code") 399, val := Value.ref 158 }, { hash := PyData.keyHash P (Str.ofString "check_name"), key := Value.str (Str.ofString "check_name") 409, val := Value.ref 165 }, { hash := PyData.keyHash P (Str.ofString "name_of_wire"), key := Value.str (Str.ofString "name_of_wire") 416, val := Value.ref 172 }, { hash := PyData.keyHash P (Str.ofString "parents"), key := Value.str (Str.ofString "parents") 425, val := Value.ref 179 }, { hash := PyData.keyHash P (Str.ofString "is_met"), key := Value.str (Str.ofString "is_met") 434, val := Value.ref 186 }, { hash := PyData.keyHash P (Str.ofString "opened"), key := Value.str (Str.ofString "opened") 445, val := Value.ref 193 }, { hash := PyData.keyHash P (Str.ofString "any_case_length"), key := Value.str (Str.ofString "any_case_length") 452, val := Value.ref 200 }, { hash := PyData.keyHash P (Str.ofString "is_listed"), key := Value.str (Str.ofString "is_listed") 466, val := Value.ref 207 }, { hash := PyData.keyHash P (Str.ofString "whole_pattern"), key := Value.str (Str.ofString "whole_pattern") 474, val := Value.ref 214 }, { hash := PyData.keyHash P (Str.ofString "list_names"), key := Value.str (Str.ofString "list_names") 480, val := Value.ref 219 }, { hash := PyData.keyHash P (Str.ofString "_law_tails"), key := Value.str (Str.ofString "_law_tails") 509, val := Value.ref 230 }, { hash := PyData.keyHash P (Str.ofString "_law_names"), key := Value.str (Str.ofString "_law_names") 518, val := Value.ref 231 }, { hash := PyData.keyHash P (Str.ofString "_law_tape"), key := Value.str (Str.ofString "_law_tape") 528, val := Value.ref 238 }, { hash := PyData.keyHash P (Str.ofString "_law_draw"), key := Value.str (Str.ofString "_law_draw") 537, val := Value.ref 245 }, { hash := PyData.keyHash P (Str.ofString "_law_spelled"), key := Value.str (Str.ofString "_law_spelled") 543, val := Value.ref 250 }, { hash := PyData.keyHash P (Str.ofString "_law_from_wire"), key := Value.str (Str.ofString "_law_from_wire") 549, val := Value.ref 255 }, { hash := PyData.keyHash P (Str.ofString "_law_meets"), key := Value.str (Str.ofString "_law_meets") 560, val := Value.ref 262 }, { hash := PyData.keyHash P (Str.ofString "_law_list"), key := Value.str (Str.ofString "_law_list") 566, val := Value.ref 267 }, { hash := PyData.keyHash P (Str.ofString "law"), key := Value.str (Str.ofString "law") 572, val := Value.ref 272 }] 48 }) ::
  (nat_lit 15, { cls := Value.type "tuple", data := Data.seq #[Value.type "Exception"] }) ::
  (nat_lit 22, { cls := Value.type "tuple", data := Data.seq #[Value.int (-1) 202] }) ::
  (nat_lit 23, { cls := Value.type "tuple", data := Data.seq #[] }) ::
  (nat_lit 25, { cls := Value.type "tuple", data := Data.seq #[Value.str (Str.ofString "self") 206, Value.str (Str.ofString "what") 207, Value.str (Str.ofString "at") 208] }) ::
  (nat_lit 26, { cls := Value.type "tuple", data := Data.seq #[] }) ::
  (nat_lit 28, { cls := Value.type "code", data := Data.fields #[Value.str (Str.ofString "__init__") 203, Value.str (Str.ofString "PostError.__init__") 204, Value.str (Str.ofString "/claim/cut.py") 205, Value.int 4 0, Value.int 3 0, Value.int 0 0, Value.int 0 0, Value.int 3 0, Value.ref 23, Value.bool true, Value.int 181 0, Value.ref 24, Value.none, Value.ref 25, Value.ref 26, Value.ref 27, Value.int 209 0, Value.int 4 0, Value.str (Str.ofString "/claim/cut.py") 210] }) ::
  (nat_lit 29, { cls := Value.type "function", data := Data.func { name := Str.ofString "__init__", qualname := Str.ofString "PostError.__init__", params := p1000, body := FuncBody.stmts b1000, scope := s1000, globals := 3, closure := [], defaults := Value.ref 22, kwdefaults := Value.none, pyModule := Value.str (Str.ofString "postkeep.errors") 187, code := Value.ref 28 } }) ::
  (nat_lit 30, { cls := Value.type "tuple", data := Data.seq #[] }) ::
  (nat_lit 32, { cls := Value.type "tuple", data := Data.seq #[Value.str (Str.ofString "self") 215] }) ::
  (nat_lit 33, { cls := Value.type "tuple", data := Data.seq #[] }) ::
  (nat_lit 35, { cls := Value.type "code", data := Data.fields #[Value.str (Str.ofString "told") 212, Value.str (Str.ofString "PostError.told") 213, Value.str (Str.ofString "/claim/cut.py") 214, Value.int 9 0, Value.int 1 0, Value.int 0 0, Value.int 0 0, Value.int 3 0, Value.ref 30, Value.bool true, Value.int 181 0, Value.ref 31, Value.none, Value.ref 32, Value.ref 33, Value.ref 34, Value.int 216 0, Value.int 9 0, Value.str (Str.ofString "/claim/cut.py") 217] }) ::
  (nat_lit 37, { cls := Value.type "tuple", data := Data.seq #[Value.str (Str.ofString "at") 219, Value.str (Str.ofString "what") 220] }) ::
  (nat_lit 38, { cls := Value.type "dict", data := Data.dict #[{ hash := PyData.keyHash P (Str.ofString "__module__"), key := Value.str (Str.ofString "__module__") 196, val := Value.str (Str.ofString "postkeep.errors") 187 }, { hash := PyData.keyHash P (Str.ofString "__firstlineno__"), key := Value.str (Str.ofString "__firstlineno__") 200, val := Value.int 2 199 }, { hash := PyData.keyHash P (Str.ofString "__init__"), key := Value.str (Str.ofString "__init__") 211, val := Value.ref 29 }, { hash := PyData.keyHash P (Str.ofString "told"), key := Value.str (Str.ofString "told") 218, val := Value.ref 36 }, { hash := PyData.keyHash P (Str.ofString "__static_attributes__"), key := Value.str (Str.ofString "__static_attributes__") 221, val := Value.ref 37 }, { hash := PyData.keyHash P (Str.ofString "__weakref__"), key := Value.str (Str.ofString "__weakref__") 223, val := Value.ref 40 }, { hash := PyData.keyHash P (Str.ofString "__doc__"), key := Value.str (Str.ofString "__doc__") 224, val := Value.none }] 3 }) ::
  (nat_lit 39, { cls := Value.type "type", data := Data.cls { name := Str.ofString "PostError", bases := [Value.type "Exception"], mro := [Value.ref 39, Value.type "Exception", Value.type "BaseException", Value.type "object"], ns := 38, qualname := Str.ofString "PostError", subclasses := [Value.ref 52, Value.ref 64] }, slots := #[some (Value.ref 15), none, some (Value.str (Str.ofString "PostError") 189), some (Value.str (Str.ofString "PostError") 197), some (Value.builtin "Exception.__new__"), some (Value.bool true)] }) ::
  (nat_lit 40, { cls := Value.type "getset_descriptor", data := Data.fields #[Value.str (Str.ofString "__weakref__") 222, Value.ref 39, Value.builtin "ExceptionGroup.__weakref__", Value.none] }) ::
  (nat_lit 43, { cls := Value.type "tuple", data := Data.seq #[Value.ref 39] }) ::
  (nat_lit 50, { cls := Value.type "tuple", data := Data.seq #[] }) ::
  (nat_lit 51, { cls := Value.type "dict", data := Data.dict #[{ hash := PyData.keyHash P (Str.ofString "__module__"), key := Value.str (Str.ofString "__module__") 236, val := Value.str (Str.ofString "postkeep.errors") 187 }, { hash := PyData.keyHash P (Str.ofString "__firstlineno__"), key := Value.str (Str.ofString "__firstlineno__") 240, val := Value.int 11 239 }, { hash := PyData.keyHash P (Str.ofString "__static_attributes__"), key := Value.str (Str.ofString "__static_attributes__") 241, val := Value.ref 50 }, { hash := PyData.keyHash P (Str.ofString "__doc__"), key := Value.str (Str.ofString "__doc__") 242, val := Value.none }] 2 }) ::
  (nat_lit 52, { cls := Value.type "type", data := Data.cls { name := Str.ofString "MimeFault", bases := [Value.ref 39], mro := [Value.ref 52, Value.ref 39, Value.type "Exception", Value.type "BaseException", Value.type "object"], ns := 51, qualname := Str.ofString "MimeFault" }, slots := #[some (Value.ref 43), none, some (Value.str (Str.ofString "MimeFault") 229), some (Value.str (Str.ofString "MimeFault") 237), some (Value.builtin "Exception.__new__"), some (Value.bool true)] }) ::
  (nat_lit 55, { cls := Value.type "tuple", data := Data.seq #[Value.ref 39] }) ::
  (nat_lit 62, { cls := Value.type "tuple", data := Data.seq #[] }) ::
  (nat_lit 63, { cls := Value.type "dict", data := Data.dict #[{ hash := PyData.keyHash P (Str.ofString "__module__"), key := Value.str (Str.ofString "__module__") 252, val := Value.str (Str.ofString "postkeep.errors") 187 }, { hash := PyData.keyHash P (Str.ofString "__firstlineno__"), key := Value.str (Str.ofString "__firstlineno__") 256, val := Value.int 13 255 }, { hash := PyData.keyHash P (Str.ofString "__static_attributes__"), key := Value.str (Str.ofString "__static_attributes__") 257, val := Value.ref 62 }, { hash := PyData.keyHash P (Str.ofString "__doc__"), key := Value.str (Str.ofString "__doc__") 258, val := Value.none }] 2 }) ::
  (nat_lit 64, { cls := Value.type "type", data := Data.cls { name := Str.ofString "NameFault", bases := [Value.ref 39], mro := [Value.ref 64, Value.ref 39, Value.type "Exception", Value.type "BaseException", Value.type "object"], ns := 63, qualname := Str.ofString "NameFault" }, slots := #[some (Value.ref 55), none, some (Value.str (Str.ofString "NameFault") 245), some (Value.str (Str.ofString "NameFault") 253), some (Value.builtin "Exception.__new__"), some (Value.bool true)] }) ::
  (nat_lit 67, { cls := Value.type "tuple", data := Data.seq #[] }) ::
  (nat_lit 70, { cls := Value.type "code", data := Data.fields #[Value.str (Str.ofString "worth_table") 263, Value.str (Str.ofString "worth_table") 264, Value.str (Str.ofString "/claim/cut.py") 265, Value.int 16 0, Value.int 1 0, Value.int 0 0, Value.int 0 0, Value.int 3 0, Value.ref 67, Value.bool true, Value.int 181 0, Value.ref 68, Value.none, Value.none, Value.none, Value.ref 69, Value.int 266 0, Value.int 16 0, Value.str (Str.ofString "/claim/cut.py") 267] }) ::
  (nat_lit 72, { cls := Value.type "tuple", data := Data.seq #[] }) ::
  (nat_lit 75, { cls := Value.type "code", data := Data.fields #[Value.str (Str.ofString "group_octets") 269, Value.str (Str.ofString "group_octets") 270, Value.str (Str.ofString "/claim/cut.py") 271, Value.int 18 0, Value.int 1 0, Value.int 0 0, Value.int 0 0, Value.int 3 0, Value.ref 72, Value.bool true, Value.int 181 0, Value.ref 73, Value.none, Value.none, Value.none, Value.ref 74, Value.int 272 0, Value.int 18 0, Value.str (Str.ofString "/claim/cut.py") 273] }) ::
  (nat_lit 77, { cls := Value.type "tuple", data := Data.seq #[] }) ::
  (nat_lit 79, { cls := Value.type "tuple", data := Data.seq #[Value.str (Str.ofString "signs") 278, Value.str (Str.ofString "worths") 279, Value.str (Str.ofString "worth_row") 280, Value.str (Str.ofString "at") 281] }) ::
  (nat_lit 80, { cls := Value.type "tuple", data := Data.seq #[] }) ::
  (nat_lit 82, { cls := Value.type "code", data := Data.fields #[Value.str (Str.ofString "part_numbers") 275, Value.str (Str.ofString "part_numbers") 276, Value.str (Str.ofString "/claim/cut.py") 277, Value.int 26 0, Value.int 2 0, Value.int 0 0, Value.int 0 0, Value.int 3 0, Value.ref 77, Value.bool true, Value.int 181 0, Value.ref 78, Value.none, Value.ref 79, Value.ref 80, Value.ref 81, Value.int 282 0, Value.int 26 0, Value.str (Str.ofString "/claim/cut.py") 283] }) ::
  (nat_lit 84, { cls := Value.type "tuple", data := Data.seq #[] }) ::
  (nat_lit 86, { cls := Value.type "tuple", data := Data.seq #[Value.str (Str.ofString "signs") 288, Value.str (Str.ofString "alphabet") 289, Value.str (Str.ofString "worth_row") 290, Value.str (Str.ofString "found") 291, Value.str (Str.ofString "begin") 292, Value.str (Str.ofString "group") 293, Value.str (Str.ofString "octets") 294, Value.str (Str.ofString "spare") 295] }) ::
  (nat_lit 87, { cls := Value.type "tuple", data := Data.seq #[] }) ::
  (nat_lit 89, { cls := Value.type "code", data := Data.fields #[Value.str (Str.ofString "part_decoded") 285, Value.str (Str.ofString "part_decoded") 286, Value.str (Str.ofString "/claim/cut.py") 287, Value.int 33 0, Value.int 2 0, Value.int 0 0, Value.int 0 0, Value.int 3 0, Value.ref 84, Value.bool true, Value.int 181 0, Value.ref 85, Value.none, Value.ref 86, Value.ref 87, Value.ref 88, Value.int 296 0, Value.int 33 0, Value.str (Str.ofString "/claim/cut.py") 297] }) ::
  (nat_lit 91, { cls := Value.type "tuple", data := Data.seq #[] }) ::
  (nat_lit 94, { cls := Value.type "code", data := Data.fields #[Value.str (Str.ofString "upper_text") 301, Value.str (Str.ofString "upper_text") 302, Value.str (Str.ofString "/claim/cut.py") 303, Value.int 46 0, Value.int 1 0, Value.int 0 0, Value.int 0 0, Value.int 3 0, Value.ref 91, Value.bool true, Value.int 181 0, Value.ref 92, Value.none, Value.none, Value.none, Value.ref 93, Value.int 304 0, Value.int 46 0, Value.str (Str.ofString "/claim/cut.py") 305] }) ::
  (nat_lit 95, { cls := Value.type "function", data := Data.func { name := Str.ofString "upper_text", qualname := Str.ofString "upper_text", params := p10, body := FuncBody.stmts b10, scope := s10, globals := 3, closure := [], defaults := Value.none, kwdefaults := Value.none, pyModule := Value.str (Str.ofString "postkeep.octets") 299, code := Value.ref 94 } }) ::
  (nat_lit 96, { cls := Value.type "tuple", data := Data.seq #[] }) ::
  (nat_lit 98, { cls := Value.type "tuple", data := Data.seq #[Value.str (Str.ofString "code") 320] }) ::
  (nat_lit 99, { cls := Value.type "tuple", data := Data.seq #[] }) ::
  (nat_lit 101, { cls := Value.type "code", data := Data.fields #[Value.str (Str.ofString "is_plain_code") 317, Value.str (Str.ofString "is_plain_code") 318, Value.str (Str.ofString "/claim/cut.py") 319, Value.int 53 0, Value.int 1 0, Value.int 0 0, Value.int 0 0, Value.int 3 0, Value.ref 96, Value.bool true, Value.int 181 0, Value.ref 97, Value.none, Value.ref 98, Value.ref 99, Value.ref 100, Value.int 321 0, Value.int 53 0, Value.str (Str.ofString "/claim/cut.py") 322] }) ::
  (nat_lit 102, { cls := Value.type "function", data := Data.func { name := Str.ofString "is_plain_code", qualname := Str.ofString "is_plain_code", params := p16, body := FuncBody.stmts b16, scope := s16, globals := 3, closure := [], defaults := Value.none, kwdefaults := Value.none, pyModule := Value.str (Str.ofString "postkeep.names") 307, code := Value.ref 101 } }) ::
  (nat_lit 103, { cls := Value.type "tuple", data := Data.seq #[] }) ::
  (nat_lit 105, { cls := Value.type "tuple", data := Data.seq #[Value.str (Str.ofString "code") 327] }) ::
  (nat_lit 106, { cls := Value.type "tuple", data := Data.seq #[] }) ::
  (nat_lit 108, { cls := Value.type "code", data := Data.fields #[Value.str (Str.ofString "is_half") 324, Value.str (Str.ofString "is_half") 325, Value.str (Str.ofString "/claim/cut.py") 326, Value.int 55 0, Value.int 1 0, Value.int 0 0, Value.int 0 0, Value.int 3 0, Value.ref 103, Value.bool true, Value.int 181 0, Value.ref 104, Value.none, Value.ref 105, Value.ref 106, Value.ref 107, Value.int 328 0, Value.int 55 0, Value.str (Str.ofString "/claim/cut.py") 329] }) ::
  (nat_lit 109, { cls := Value.type "function", data := Data.func { name := Str.ofString "is_half", qualname := Str.ofString "is_half", params := p17, body := FuncBody.stmts b17, scope := s17, globals := 3, closure := [], defaults := Value.none, kwdefaults := Value.none, pyModule := Value.str (Str.ofString "postkeep.names") 307, code := Value.ref 108 } }) ::
  (nat_lit 110, { cls := Value.type "tuple", data := Data.seq #[] }) ::
  (nat_lit 112, { cls := Value.type "tuple", data := Data.seq #[Value.str (Str.ofString "octets") 334, Value.str (Str.ofString "begin") 335, Value.str (Str.ofString "end") 336] }) ::
  (nat_lit 113, { cls := Value.type "tuple", data := Data.seq #[] }) ::
  (nat_lit 115, { cls := Value.type "code", data := Data.fields #[Value.str (Str.ofString "shift_behind") 331, Value.str (Str.ofString "shift_behind") 332, Value.str (Str.ofString "/claim/cut.py") 333, Value.int 57 0, Value.int 2 0, Value.int 0 0, Value.int 0 0, Value.int 3 0, Value.ref 110, Value.bool true, Value.int 181 0, Value.ref 111, Value.none, Value.ref 112, Value.ref 113, Value.ref 114, Value.int 337 0, Value.int 57 0, Value.str (Str.ofString "/claim/cut.py") 338] }) ::
  (nat_lit 117, { cls := Value.type "tuple", data := Data.seq #[] }) ::
  (nat_lit 119, { cls := Value.type "tuple", data := Data.seq #[Value.str (Str.ofString "raw") 343, Value.str (Str.ofString "begin") 344, Value.str (Str.ofString "signs") 345, Value.str (Str.ofString "high") 346, Value.str (Str.ofString "place") 347, Value.str (Str.ofString "at") 348, Value.str (Str.ofString "code") 349] }) ::
  (nat_lit 120, { cls := Value.type "tuple", data := Data.seq #[] }) ::
  (nat_lit 122, { cls := Value.type "code", data := Data.fields #[Value.str (Str.ofString "units_text") 340, Value.str (Str.ofString "units_text") 341, Value.str (Str.ofString "/claim/cut.py") 342, Value.int 64 0, Value.int 2 0, Value.int 0 0, Value.int 0 0, Value.int 3 0, Value.ref 117, Value.bool true, Value.int 181 0, Value.ref 118, Value.none, Value.ref 119, Value.ref 120, Value.ref 121, Value.int 350 0, Value.int 64 0, Value.str (Str.ofString "/claim/cut.py") 351] }) ::
  (nat_lit 124, { cls := Value.type "tuple", data := Data.seq #[] }) ::
  (nat_lit 126, { cls := Value.type "tuple", data := Data.seq #[Value.str (Str.ofString "octets") 356, Value.str (Str.ofString "begin") 357, Value.str (Str.ofString "end") 358, Value.str (Str.ofString "raw") 359, Value.str (Str.ofString "fault") 360] }) ::
  (nat_lit 127, { cls := Value.type "tuple", data := Data.seq #[] }) ::
  (nat_lit 129, { cls := Value.type "code", data := Data.fields #[Value.str (Str.ofString "shifted_text") 353, Value.str (Str.ofString "shifted_text") 354, Value.str (Str.ofString "/claim/cut.py") 355, Value.int 86 0, Value.int 3 0, Value.int 0 0, Value.int 0 0, Value.int 3 0, Value.ref 124, Value.bool true, Value.int 181 0, Value.ref 125, Value.none, Value.ref 126, Value.ref 127, Value.ref 128, Value.int 361 0, Value.int 86 0, Value.str (Str.ofString "/claim/cut.py") 362] }) ::
  (nat_lit 131, { cls := Value.type "tuple", data := Data.seq #[] }) ::
  (nat_lit 133, { cls := Value.type "tuple", data := Data.seq #[Value.str (Str.ofString "octets") 367, Value.str (Str.ofString "pieces") 368, Value.str (Str.ofString "at") 369, Value.str (Str.ofString "shift_end") 370, Value.str (Str.ofString "code") 371, Value.str (Str.ofString "end") 372] }) ::
  (nat_lit 134, { cls := Value.type "tuple", data := Data.seq #[] }) ::
  (nat_lit 136, { cls := Value.type "code", data := Data.fields #[Value.str (Str.ofString "utf7_text") 364, Value.str (Str.ofString "utf7_text") 365, Value.str (Str.ofString "/claim/cut.py") 366, Value.int 94 0, Value.int 1 0, Value.int 0 0, Value.int 0 0, Value.int 3 0, Value.ref 131, Value.bool true, Value.int 181 0, Value.ref 132, Value.none, Value.ref 133, Value.ref 134, Value.ref 135, Value.int 373 0, Value.int 94 0, Value.str (Str.ofString "/claim/cut.py") 374] }) ::
  (nat_lit 137, { cls := Value.type "function", data := Data.func { name := Str.ofString "utf7_text", qualname := Str.ofString "utf7_text", params := p21, body := FuncBody.stmts b21, scope := s21, globals := 3, closure := [], defaults := Value.none, kwdefaults := Value.none, pyModule := Value.str (Str.ofString "postkeep.names") 307, code := Value.ref 136 } }) ::
  (nat_lit 138, { cls := Value.type "tuple", data := Data.seq #[] }) ::
  (nat_lit 140, { cls := Value.type "tuple", data := Data.seq #[Value.str (Str.ofString "text") 379, Value.str (Str.ofString "end") 380] }) ::
  (nat_lit 141, { cls := Value.type "tuple", data := Data.seq #[] }) ::
  (nat_lit 143, { cls := Value.type "code", data := Data.fields #[Value.str (Str.ofString "first_part") 376, Value.str (Str.ofString "first_part") 377, Value.str (Str.ofString "/claim/cut.py") 378, Value.int 116 0, Value.int 1 0, Value.int 0 0, Value.int 0 0, Value.int 3 0, Value.ref 138, Value.bool true, Value.int 181 0, Value.ref 139, Value.none, Value.ref 140, Value.ref 141, Value.ref 142, Value.int 381 0, Value.int 116 0, Value.str (Str.ofString "/claim/cut.py") 382] }) ::
  (nat_lit 144, { cls := Value.type "function", data := Data.func { name := Str.ofString "first_part", qualname := Str.ofString "first_part", params := p22, body := FuncBody.stmts b22, scope := s22, globals := 3, closure := [], defaults := Value.none, kwdefaults := Value.none, pyModule := Value.str (Str.ofString "postkeep.names") 307, code := Value.ref 143 } }) ::
  (nat_lit 145, { cls := Value.type "tuple", data := Data.seq #[] }) ::
  (nat_lit 147, { cls := Value.type "tuple", data := Data.seq #[Value.str (Str.ofString "text") 387, Value.str (Str.ofString "head") 388, Value.str (Str.ofString "rest") 389] }) ::
  (nat_lit 148, { cls := Value.type "tuple", data := Data.seq #[] }) ::
  (nat_lit 150, { cls := Value.type "code", data := Data.fields #[Value.str (Str.ofString "normal_name") 384, Value.str (Str.ofString "normal_name") 385, Value.str (Str.ofString "/claim/cut.py") 386, Value.int 121 0, Value.int 1 0, Value.int 0 0, Value.int 0 0, Value.int 3 0, Value.ref 145, Value.bool true, Value.int 181 0, Value.ref 146, Value.none, Value.ref 147, Value.ref 148, Value.ref 149, Value.int 390 0, Value.int 121 0, Value.str (Str.ofString "/claim/cut.py") 391] }) ::
  (nat_lit 151, { cls := Value.type "function", data := Data.func { name := Str.ofString "normal_name", qualname := Str.ofString "normal_name", params := p23, body := FuncBody.stmts b23, scope := s23, globals := 3, closure := [], defaults := Value.none, kwdefaults := Value.none, pyModule := Value.str (Str.ofString "postkeep.names") 307, code := Value.ref 150 } }) ::
  (nat_lit 152, { cls := Value.type "tuple", data := Data.seq #[] }) ::
  (nat_lit 154, { cls := Value.type "tuple", data := Data.seq #[Value.str (Str.ofString "code") 396] }) ::
  (nat_lit 155, { cls := Value.type "tuple", data := Data.seq #[] }) ::
  (nat_lit 157, { cls := Value.type "code", data := Data.fields #[Value.str (Str.ofString "is_barred_code") 393, Value.str (Str.ofString "is_barred_code") 394, Value.str (Str.ofString "/claim/cut.py") 395, Value.int 126 0, Value.int 1 0, Value.int 0 0, Value.int 0 0, Value.int 3 0, Value.ref 152, Value.bool true, Value.int 181 0, Value.ref 153, Value.none, Value.ref 154, Value.ref 155, Value.ref 156, Value.int 397 0, Value.int 126 0, Value.str (Str.ofString "/claim/cut.py") 398] }) ::
  (nat_lit 158, { cls := Value.type "function", data := Data.func { name := Str.ofString "is_barred_code", qualname := Str.ofString "is_barred_code", params := p24, body := FuncBody.stmts b24, scope := s24, globals := 3, closure := [], defaults := Value.none, kwdefaults := Value.none, pyModule := Value.str (Str.ofString "postkeep.names") 307, code := Value.ref 157 } }) ::
  (nat_lit 159, { cls := Value.type "tuple", data := Data.seq #[] }) ::
  (nat_lit 161, { cls := Value.type "tuple", data := Data.seq #[Value.str (Str.ofString "text") 403, Value.str (Str.ofString "begin") 404, Value.str (Str.ofString "at") 405, Value.str (Str.ofString "sign") 406] }) ::
  (nat_lit 162, { cls := Value.type "tuple", data := Data.seq #[] }) ::
  (nat_lit 164, { cls := Value.type "code", data := Data.fields #[Value.str (Str.ofString "check_name") 400, Value.str (Str.ofString "check_name") 401, Value.str (Str.ofString "/claim/cut.py") 402, Value.int 128 0, Value.int 1 0, Value.int 0 0, Value.int 0 0, Value.int 3 0, Value.ref 159, Value.bool true, Value.int 181 0, Value.ref 160, Value.none, Value.ref 161, Value.ref 162, Value.ref 163, Value.int 407 0, Value.int 128 0, Value.str (Str.ofString "/claim/cut.py") 408] }) ::
  (nat_lit 165, { cls := Value.type "function", data := Data.func { name := Str.ofString "check_name", qualname := Str.ofString "check_name", params := p25, body := FuncBody.stmts b25, scope := s25, globals := 3, closure := [], defaults := Value.none, kwdefaults := Value.none, pyModule := Value.str (Str.ofString "postkeep.names") 307, code := Value.ref 164 } }) ::
  (nat_lit 166, { cls := Value.type "tuple", data := Data.seq #[] }) ::
  (nat_lit 168, { cls := Value.type "tuple", data := Data.seq #[Value.str (Str.ofString "octets") 413] }) ::
  (nat_lit 169, { cls := Value.type "tuple", data := Data.seq #[] }) ::
  (nat_lit 171, { cls := Value.type "code", data := Data.fields #[Value.str (Str.ofString "name_of_wire") 410, Value.str (Str.ofString "name_of_wire") 411, Value.str (Str.ofString "/claim/cut.py") 412, Value.int 143 0, Value.int 1 0, Value.int 0 0, Value.int 0 0, Value.int 3 0, Value.ref 166, Value.bool true, Value.int 181 0, Value.ref 167, Value.none, Value.ref 168, Value.ref 169, Value.ref 170, Value.int 414 0, Value.int 143 0, Value.str (Str.ofString "/claim/cut.py") 415] }) ::
  (nat_lit 172, { cls := Value.type "function", data := Data.func { name := Str.ofString "name_of_wire", qualname := Str.ofString "name_of_wire", params := p26, body := FuncBody.stmts b26, scope := s26, globals := 3, closure := [], defaults := Value.none, kwdefaults := Value.none, pyModule := Value.str (Str.ofString "postkeep.names") 307, code := Value.ref 171 } }) ::
  (nat_lit 173, { cls := Value.type "tuple", data := Data.seq #[] }) ::
  (nat_lit 175, { cls := Value.type "tuple", data := Data.seq #[Value.str (Str.ofString "name") 420, Value.str (Str.ofString "some") 421, Value.str (Str.ofString "at") 422] }) ::
  (nat_lit 176, { cls := Value.type "tuple", data := Data.seq #[] }) ::
  (nat_lit 178, { cls := Value.type "code", data := Data.fields #[Value.str (Str.ofString "parents") 417, Value.str (Str.ofString "parents") 418, Value.str (Str.ofString "/claim/cut.py") 419, Value.int 145 0, Value.int 1 0, Value.int 0 0, Value.int 0 0, Value.int 3 0, Value.ref 173, Value.bool true, Value.int 181 0, Value.ref 174, Value.none, Value.ref 175, Value.ref 176, Value.ref 177, Value.int 423 0, Value.int 145 0, Value.str (Str.ofString "/claim/cut.py") 424] }) ::
  (nat_lit 179, { cls := Value.type "function", data := Data.func { name := Str.ofString "parents", qualname := Str.ofString "parents", params := p27, body := FuncBody.stmts b27, scope := s27, globals := 3, closure := [], defaults := Value.none, kwdefaults := Value.none, pyModule := Value.str (Str.ofString "postkeep.names") 307, code := Value.ref 178 } }) ::
  (nat_lit 180, { cls := Value.type "tuple", data := Data.seq #[] }) ::
  (nat_lit 182, { cls := Value.type "tuple", data := Data.seq #[Value.str (Str.ofString "wanted") 429, Value.str (Str.ofString "sign") 430, Value.str (Str.ofString "is_any_case") 431] }) ::
  (nat_lit 183, { cls := Value.type "tuple", data := Data.seq #[] }) ::
  (nat_lit 185, { cls := Value.type "code", data := Data.fields #[Value.str (Str.ofString "is_met") 426, Value.str (Str.ofString "is_met") 427, Value.str (Str.ofString "/claim/cut.py") 428, Value.int 152 0, Value.int 3 0, Value.int 0 0, Value.int 0 0, Value.int 3 0, Value.ref 180, Value.bool true, Value.int 181 0, Value.ref 181, Value.none, Value.ref 182, Value.ref 183, Value.ref 184, Value.int 432 0, Value.int 152 0, Value.str (Str.ofString "/claim/cut.py") 433] }) ::
  (nat_lit 186, { cls := Value.type "function", data := Data.func { name := Str.ofString "is_met", qualname := Str.ofString "is_met", params := p28, body := FuncBody.stmts b28, scope := s28, globals := 3, closure := [], defaults := Value.none, kwdefaults := Value.none, pyModule := Value.str (Str.ofString "postkeep.names") 307, code := Value.ref 185 } }) ::
  (nat_lit 187, { cls := Value.type "tuple", data := Data.seq #[] }) ::
  (nat_lit 189, { cls := Value.type "tuple", data := Data.seq #[Value.str (Str.ofString "pattern") 438, Value.str (Str.ofString "heads") 439, Value.str (Str.ofString "places") 440, Value.str (Str.ofString "head") 441, Value.str (Str.ofString "place") 442] }) ::
  (nat_lit 190, { cls := Value.type "tuple", data := Data.seq #[] }) ::
  (nat_lit 192, { cls := Value.type "code", data := Data.fields #[Value.str (Str.ofString "opened") 435, Value.str (Str.ofString "opened") 436, Value.str (Str.ofString "/claim/cut.py") 437, Value.int 156 0, Value.int 2 0, Value.int 0 0, Value.int 0 0, Value.int 3 0, Value.ref 187, Value.bool true, Value.int 181 0, Value.ref 188, Value.none, Value.ref 189, Value.ref 190, Value.ref 191, Value.int 443 0, Value.int 156 0, Value.str (Str.ofString "/claim/cut.py") 444] }) ::
  (nat_lit 193, { cls := Value.type "function", data := Data.func { name := Str.ofString "opened", qualname := Str.ofString "opened", params := p29, body := FuncBody.stmts b29, scope := s29, globals := 3, closure := [], defaults := Value.none, kwdefaults := Value.none, pyModule := Value.str (Str.ofString "postkeep.names") 307, code := Value.ref 192 } }) ::
  (nat_lit 194, { cls := Value.type "tuple", data := Data.seq #[] }) ::
  (nat_lit 196, { cls := Value.type "tuple", data := Data.seq #[Value.str (Str.ofString "name") 449] }) ::
  (nat_lit 197, { cls := Value.type "tuple", data := Data.seq #[] }) ::
  (nat_lit 199, { cls := Value.type "code", data := Data.fields #[Value.str (Str.ofString "any_case_length") 446, Value.str (Str.ofString "any_case_length") 447, Value.str (Str.ofString "/claim/cut.py") 448, Value.int 165 0, Value.int 1 0, Value.int 0 0, Value.int 0 0, Value.int 3 0, Value.ref 194, Value.bool true, Value.int 181 0, Value.ref 195, Value.none, Value.ref 196, Value.ref 197, Value.ref 198, Value.int 450 0, Value.int 165 0, Value.str (Str.ofString "/claim/cut.py") 451] }) ::
  (nat_lit 200, { cls := Value.type "function", data := Data.func { name := Str.ofString "any_case_length", qualname := Str.ofString "any_case_length", params := p30, body := FuncBody.stmts b30, scope := s30, globals := 3, closure := [], defaults := Value.none, kwdefaults := Value.none, pyModule := Value.str (Str.ofString "postkeep.names") 307, code := Value.ref 199 } }) ::
  (nat_lit 201, { cls := Value.type "tuple", data := Data.seq #[] }) ::
  (nat_lit 203, { cls := Value.type "tuple", data := Data.seq #[Value.str (Str.ofString "pattern") 456, Value.str (Str.ofString "name") 457, Value.str (Str.ofString "most") 458, Value.str (Str.ofString "places") 459, Value.str (Str.ofString "at") 460, Value.str (Str.ofString "heads") 461, Value.str (Str.ofString "place") 462, Value.str (Str.ofString "wanted") 463] }) ::
  (nat_lit 204, { cls := Value.type "tuple", data := Data.seq #[] }) ::
  (nat_lit 206, { cls := Value.type "code", data := Data.fields #[Value.str (Str.ofString "is_listed") 453, Value.str (Str.ofString "is_listed") 454, Value.str (Str.ofString "/claim/cut.py") 455, Value.int 169 0, Value.int 2 0, Value.int 0 0, Value.int 0 0, Value.int 3 0, Value.ref 201, Value.bool true, Value.int 181 0, Value.ref 202, Value.none, Value.ref 203, Value.ref 204, Value.ref 205, Value.int 464 0, Value.int 169 0, Value.str (Str.ofString "/claim/cut.py") 465] }) ::
  (nat_lit 207, { cls := Value.type "function", data := Data.func { name := Str.ofString "is_listed", qualname := Str.ofString "is_listed", params := p31, body := FuncBody.stmts b31, scope := s31, globals := 3, closure := [], defaults := Value.none, kwdefaults := Value.none, pyModule := Value.str (Str.ofString "postkeep.names") 307, code := Value.ref 206 } }) ::
  (nat_lit 208, { cls := Value.type "tuple", data := Data.seq #[] }) ::
  (nat_lit 210, { cls := Value.type "tuple", data := Data.seq #[Value.str (Str.ofString "reference") 470, Value.str (Str.ofString "pattern") 471] }) ::
  (nat_lit 211, { cls := Value.type "tuple", data := Data.seq #[] }) ::
  (nat_lit 213, { cls := Value.type "code", data := Data.fields #[Value.str (Str.ofString "whole_pattern") 467, Value.str (Str.ofString "whole_pattern") 468, Value.str (Str.ofString "/claim/cut.py") 469, Value.int 184 0, Value.int 2 0, Value.int 0 0, Value.int 0 0, Value.int 3 0, Value.ref 208, Value.bool true, Value.int 181 0, Value.ref 209, Value.none, Value.ref 210, Value.ref 211, Value.ref 212, Value.int 472 0, Value.int 184 0, Value.str (Str.ofString "/claim/cut.py") 473] }) ::
  (nat_lit 214, { cls := Value.type "function", data := Data.func { name := Str.ofString "whole_pattern", qualname := Str.ofString "whole_pattern", params := p32, body := FuncBody.stmts b32, scope := s32, globals := 3, closure := [], defaults := Value.none, kwdefaults := Value.none, pyModule := Value.str (Str.ofString "postkeep.names") 307, code := Value.ref 213 } }) ::
  (nat_lit 215, { cls := Value.type "tuple", data := Data.seq #[] }) ::
  (nat_lit 218, { cls := Value.type "code", data := Data.fields #[Value.str (Str.ofString "list_names") 475, Value.str (Str.ofString "list_names") 476, Value.str (Str.ofString "/claim/cut.py") 477, Value.int 188 0, Value.int 3 0, Value.int 0 0, Value.int 0 0, Value.int 3 0, Value.ref 215, Value.bool true, Value.int 181 0, Value.ref 216, Value.none, Value.none, Value.none, Value.ref 217, Value.int 478 0, Value.int 188 0, Value.str (Str.ofString "/claim/cut.py") 479] }) ::
  (nat_lit 219, { cls := Value.type "function", data := Data.func { name := Str.ofString "list_names", qualname := Str.ofString "list_names", params := p33, body := FuncBody.stmts b33, scope := s33, globals := 3, closure := [], defaults := Value.none, kwdefaults := Value.none, pyModule := Value.str (Str.ofString "postkeep.names") 307, code := Value.ref 218 } }) ::
  (nat_lit 220, { cls := Value.type "tuple", data := Data.seq #[Value.str (Str.ofString "") 483, Value.int (-1) 485] }) ::
  (nat_lit 221, { cls := Value.type "tuple", data := Data.seq #[Value.str (Str.ofString "/a") 486, Value.int (-1) 488] }) ::
  (nat_lit 222, { cls := Value.type "tuple", data := Data.seq #[Value.str (Str.ofString "/") 489, Value.int 6 490] }) ::
  (nat_lit 223, { cls := Value.type "tuple", data := Data.seq #[Value.str (Str.ofString "//a") 491, Value.int 6 492] }) ::
  (nat_lit 224, { cls := Value.type "tuple", data := Data.seq #[Value.str (Str.ofString "/a/b") 493, Value.int (-1) 495] }) ::
  (nat_lit 225, { cls := Value.type "tuple", data := Data.seq #[Value.str (Str.ofString "es") 496, Value.int (-1) 498] }) ::
  (nat_lit 226, { cls := Value.type "tuple", data := Data.seq #[Value.str (Str.ofString "/%") 499, Value.int 6 500] }) ::
  (nat_lit 227, { cls := Value.type "tuple", data := Data.seq #[Value.str (Str.ofString "/inbox") 501, Value.int (-1) 503] }) ::
  (nat_lit 228, { cls := Value.type "tuple", data := Data.seq #[Value.str (Str.ofString "*") 504, Value.int 5 505] }) ::
  (nat_lit 229, { cls := Value.type "tuple", data := Data.seq #[Value.str (Str.ofString "x/a") 506, Value.int (-1) 508] }) ::
  (nat_lit 230, { cls := Value.type "tuple", data := Data.seq #[Value.ref 220, Value.ref 221, Value.ref 222, Value.ref 223, Value.ref 224, Value.ref 225, Value.ref 226, Value.ref 227, Value.ref 228, Value.ref 229] }) ::
  (nat_lit 231, { cls := Value.type "tuple", data := Data.seq #[Value.str (Str.ofString "INBOX") 510, Value.str (Str.ofString "INBOX/a") 511, Value.str (Str.ofString "INBOX/inbox") 512, Value.str (Str.ofString "INBOX/a/b") 513, Value.str (Str.ofString "INBOXes") 514, Value.str (Str.ofString "inboxes") 515, Value.str (Str.ofString "a/INBOX") 516, Value.str (Str.ofString "b") 517] }) ::
  (nat_lit 232, { cls := Value.type "tuple", data := Data.seq #[] }) ::
  (nat_lit 234, { cls := Value.type "tuple", data := Data.seq #[Value.str (Str.ofString "script") 522, Value.str (Str.ofString "digits") 523, Value.str (Str.ofString "seed") 524, Value.str (Str.ofString "cell") 525] }) ::
  (nat_lit 235, { cls := Value.type "tuple", data := Data.seq #[] }) ::
  (nat_lit 237, { cls := Value.type "code", data := Data.fields #[Value.str (Str.ofString "_law_tape") 519, Value.str (Str.ofString "_law_tape") 520, Value.str (Str.ofString "/claim/cut.py") 521, Value.int 204 0, Value.int 1 0, Value.int 0 0, Value.int 0 0, Value.int 3 0, Value.ref 232, Value.bool true, Value.int 181 0, Value.ref 233, Value.none, Value.ref 234, Value.ref 235, Value.ref 236, Value.int 526 0, Value.int 204 0, Value.str (Str.ofString "/claim/cut.py") 527] }) ::
  (nat_lit 238, { cls := Value.type "function", data := Data.func { name := Str.ofString "_law_tape", qualname := Str.ofString "_law_tape", params := p37, body := FuncBody.stmts b37, scope := s37, globals := 3, closure := [], defaults := Value.none, kwdefaults := Value.none, pyModule := Value.str (Str.ofString "law_pq0938_01") 481, code := Value.ref 237 } }) ::
  (nat_lit 239, { cls := Value.type "tuple", data := Data.seq #[] }) ::
  (nat_lit 241, { cls := Value.type "tuple", data := Data.seq #[Value.str (Str.ofString "tape") 532, Value.str (Str.ofString "many") 533, Value.str (Str.ofString "digit") 534] }) ::
  (nat_lit 242, { cls := Value.type "tuple", data := Data.seq #[] }) ::
  (nat_lit 244, { cls := Value.type "code", data := Data.fields #[Value.str (Str.ofString "_law_draw") 529, Value.str (Str.ofString "_law_draw") 530, Value.str (Str.ofString "/claim/cut.py") 531, Value.int 210 0, Value.int 2 0, Value.int 0 0, Value.int 0 0, Value.int 3 0, Value.ref 239, Value.bool true, Value.int 181 0, Value.ref 240, Value.none, Value.ref 241, Value.ref 242, Value.ref 243, Value.int 535 0, Value.int 210 0, Value.str (Str.ofString "/claim/cut.py") 536] }) ::
  (nat_lit 245, { cls := Value.type "function", data := Data.func { name := Str.ofString "_law_draw", qualname := Str.ofString "_law_draw", params := p38, body := FuncBody.stmts b38, scope := s38, globals := 3, closure := [], defaults := Value.none, kwdefaults := Value.none, pyModule := Value.str (Str.ofString "law_pq0938_01") 481, code := Value.ref 244 } }) ::
  (nat_lit 246, { cls := Value.type "tuple", data := Data.seq #[] }) ::
  (nat_lit 249, { cls := Value.type "code", data := Data.fields #[Value.str (Str.ofString "_law_spelled") 538, Value.str (Str.ofString "_law_spelled") 539, Value.str (Str.ofString "/claim/cut.py") 540, Value.int 217 0, Value.int 1 0, Value.int 0 0, Value.int 0 0, Value.int 3 0, Value.ref 246, Value.bool true, Value.int 181 0, Value.ref 247, Value.none, Value.none, Value.none, Value.ref 248, Value.int 541 0, Value.int 217 0, Value.str (Str.ofString "/claim/cut.py") 542] }) ::
  (nat_lit 250, { cls := Value.type "function", data := Data.func { name := Str.ofString "_law_spelled", qualname := Str.ofString "_law_spelled", params := p39, body := FuncBody.stmts b39, scope := s39, globals := 3, closure := [], defaults := Value.none, kwdefaults := Value.none, pyModule := Value.str (Str.ofString "law_pq0938_01") 481, code := Value.ref 249 } }) ::
  (nat_lit 251, { cls := Value.type "tuple", data := Data.seq #[] }) ::
  (nat_lit 254, { cls := Value.type "code", data := Data.fields #[Value.str (Str.ofString "_law_from_wire") 544, Value.str (Str.ofString "_law_from_wire") 545, Value.str (Str.ofString "/claim/cut.py") 546, Value.int 219 0, Value.int 1 0, Value.int 0 0, Value.int 0 0, Value.int 3 0, Value.ref 251, Value.bool true, Value.int 181 0, Value.ref 252, Value.none, Value.none, Value.none, Value.ref 253, Value.int 547 0, Value.int 219 0, Value.str (Str.ofString "/claim/cut.py") 548] }) ::
  (nat_lit 255, { cls := Value.type "function", data := Data.func { name := Str.ofString "_law_from_wire", qualname := Str.ofString "_law_from_wire", params := p40, body := FuncBody.stmts b40, scope := s40, globals := 3, closure := [], defaults := Value.none, kwdefaults := Value.none, pyModule := Value.str (Str.ofString "law_pq0938_01") 481, code := Value.ref 254 } }) ::
  (nat_lit 256, { cls := Value.type "tuple", data := Data.seq #[] }) ::
  (nat_lit 258, { cls := Value.type "tuple", data := Data.seq #[Value.str (Str.ofString "pattern") 553, Value.str (Str.ofString "name") 554, Value.str (Str.ofString "at") 555, Value.str (Str.ofString "most") 556, Value.str (Str.ofString "wanted") 557] }) ::
  (nat_lit 259, { cls := Value.type "tuple", data := Data.seq #[] }) ::
  (nat_lit 261, { cls := Value.type "code", data := Data.fields #[Value.str (Str.ofString "_law_meets") 550, Value.str (Str.ofString "_law_meets") 551, Value.str (Str.ofString "/claim/cut.py") 552, Value.int 224 0, Value.int 4 0, Value.int 0 0, Value.int 0 0, Value.int 3 0, Value.ref 256, Value.bool true, Value.int 181 0, Value.ref 257, Value.none, Value.ref 258, Value.ref 259, Value.ref 260, Value.int 558 0, Value.int 224 0, Value.str (Str.ofString "/claim/cut.py") 559] }) ::
  (nat_lit 262, { cls := Value.type "function", data := Data.func { name := Str.ofString "_law_meets", qualname := Str.ofString "_law_meets", params := p41, body := FuncBody.stmts b41, scope := s41, globals := 3, closure := [], defaults := Value.none, kwdefaults := Value.none, pyModule := Value.str (Str.ofString "law_pq0938_01") 481, code := Value.ref 261 } }) ::
  (nat_lit 263, { cls := Value.type "tuple", data := Data.seq #[] }) ::
  (nat_lit 266, { cls := Value.type "code", data := Data.fields #[Value.str (Str.ofString "_law_list") 561, Value.str (Str.ofString "_law_list") 562, Value.str (Str.ofString "/claim/cut.py") 563, Value.int 235 0, Value.int 3 0, Value.int 0 0, Value.int 0 0, Value.int 3 0, Value.ref 263, Value.bool true, Value.int 181 0, Value.ref 264, Value.none, Value.none, Value.none, Value.ref 265, Value.int 564 0, Value.int 235 0, Value.str (Str.ofString "/claim/cut.py") 565] }) ::
  (nat_lit 267, { cls := Value.type "function", data := Data.func { name := Str.ofString "_law_list", qualname := Str.ofString "_law_list", params := p42, body := FuncBody.stmts b42, scope := s42, globals := 3, closure := [], defaults := Value.none, kwdefaults := Value.none, pyModule := Value.str (Str.ofString "law_pq0938_01") 481, code := Value.ref 266 } }) ::
  (nat_lit 268, { cls := Value.type "tuple", data := Data.seq #[] }) ::
  (nat_lit 271, { cls := Value.type "code", data := Data.fields #[Value.str (Str.ofString "law") 567, Value.str (Str.ofString "law") 568, Value.str (Str.ofString "/claim/cut.py") 569, Value.int 249 0, Value.int 1 0, Value.int 0 0, Value.int 0 0, Value.int 3 0, Value.ref 268, Value.bool true, Value.int 181 0, Value.ref 269, Value.none, Value.none, Value.none, Value.ref 270, Value.int 570 0, Value.int 249 0, Value.str (Str.ofString "/claim/cut.py") 571] }) ::
  (nat_lit 272, { cls := Value.type "function", data := Data.func { name := Str.ofString "law", qualname := Str.ofString "law", params := p43, body := FuncBody.stmts b43, scope := s43, globals := 3, closure := [], defaults := Value.none, kwdefaults := Value.none, pyModule := Value.str (Str.ofString "law_pq0938_01") 481, code := Value.ref 271 } }) :: []) : Frag)) _ _ _ rfl _ _ _ rfl _ _ _ rfl _ _ _ rfl _ _ _ rfl _ _ _ rfl _ _ _ rfl _ _ _ rfl _ _ _ rfl _ _ _ rfl _ _ _ rfl _ _ _ rfl _ _ _ rfl _ _ _ rfl _ _ _ rfl _ _ _ rfl _ _ _ rfl _ _ _ rfl _ _ _ rfl _ _ _ rfl _ _ _ rfl _ _ _ rfl _ _ _ rfl _ _ _ rfl
noncomputable def viewSel : List Stmt := [1, 2, 3, 5, 6, 7, 8, 10, 12, 13, 14, 15, 16, 17, 18, 19, 20, 21, 22, 23, 24, 25, 26, 27, 28, 29, 30, 31, 32, 33, 35, 36, 37, 38, 39, 40, 41, 42, 43].map fun i => PySem.Challenge.pw_pq0938_01.main.body.getD i default
noncomputable def hd.view_39 : Program := (fun (c1 c2 c3 c5 c6 c7 c8 c10 c12 c13 c14 c15 c16 c17 c18 c19 c20 c21 c22 c23 c24 c25 c26 c27 c28 c29 c30 c31 c32 c33 c35 c36 c37 c38 c39 c40 c41 c42 c43 : Stmt) (_ : viewSel = [c1, c2, c3, c5, c6, c7, c8, c10, c12, c13, c14, c15, c16, c17, c18, c19, c20, c21, c22, c23, c24, c25, c26, c27, c28, c29, c30, c31, c32, c33, c35, c36, c37, c38, c39, c40, c41, c42, c43]) => { PySem.Challenge.pw_pq0938_01 with main := { PySem.Challenge.pw_pq0938_01.main with body := [c1, c2, c3, c5, c6, c7, c8, c10, c12, c13, c14, c15, c16, c17, c18, c19, c20, c21, c22, c23, c24, c25, c26, c27, c28, c29, c30, c31, c32, c33, c35, c36, c37, c38, c39, c40, c41, c42, c43] } }) _ _ _ _ _ _ _ _ _ _ _ _ _ _ _ _ _ _ _ _ _ _ _ _ _ _ _ _ _ _ _ _ _ _ _ _ _ _ _ rfl
def adr : List Addr := nat_lit 2 :: nat_lit 3 :: nat_lit 15 :: nat_lit 22 :: nat_lit 23 :: nat_lit 25 :: nat_lit 26 :: nat_lit 28 :: nat_lit 29 :: nat_lit 30 :: nat_lit 32 :: nat_lit 33 :: nat_lit 35 :: nat_lit 37 :: nat_lit 38 :: nat_lit 39 :: nat_lit 40 :: nat_lit 43 :: nat_lit 50 :: nat_lit 51 :: nat_lit 52 :: nat_lit 55 :: nat_lit 62 :: nat_lit 63 :: nat_lit 64 :: nat_lit 67 :: nat_lit 70 :: nat_lit 72 :: nat_lit 75 :: nat_lit 77 :: nat_lit 79 :: nat_lit 80 :: nat_lit 82 :: nat_lit 84 :: nat_lit 86 :: nat_lit 87 :: nat_lit 89 :: nat_lit 91 :: nat_lit 94 :: nat_lit 95 :: nat_lit 96 :: nat_lit 98 :: nat_lit 99 :: nat_lit 101 :: nat_lit 102 :: nat_lit 103 :: nat_lit 105 :: nat_lit 106 :: nat_lit 108 :: nat_lit 109 :: nat_lit 110 :: nat_lit 112 :: nat_lit 113 :: nat_lit 115 :: nat_lit 117 :: nat_lit 119 :: nat_lit 120 :: nat_lit 122 :: nat_lit 124 :: nat_lit 126 :: nat_lit 127 :: nat_lit 129 :: nat_lit 131 :: nat_lit 133 :: nat_lit 134 :: nat_lit 136 :: nat_lit 137 :: nat_lit 138 :: nat_lit 140 :: nat_lit 141 :: nat_lit 143 :: nat_lit 144 :: nat_lit 145 :: nat_lit 147 :: nat_lit 148 :: nat_lit 150 :: nat_lit 151 :: nat_lit 152 :: nat_lit 154 :: nat_lit 155 :: nat_lit 157 :: nat_lit 158 :: nat_lit 159 :: nat_lit 161 :: nat_lit 162 :: nat_lit 164 :: nat_lit 165 :: nat_lit 166 :: nat_lit 168 :: nat_lit 169 :: nat_lit 171 :: nat_lit 172 :: nat_lit 173 :: nat_lit 175 :: nat_lit 176 :: nat_lit 178 :: nat_lit 179 :: nat_lit 180 :: nat_lit 182 :: nat_lit 183 :: nat_lit 185 :: nat_lit 186 :: nat_lit 187 :: nat_lit 189 :: nat_lit 190 :: nat_lit 192 :: nat_lit 193 :: nat_lit 194 :: nat_lit 196 :: nat_lit 197 :: nat_lit 199 :: nat_lit 200 :: nat_lit 201 :: nat_lit 203 :: nat_lit 204 :: nat_lit 206 :: nat_lit 207 :: nat_lit 208 :: nat_lit 210 :: nat_lit 211 :: nat_lit 213 :: nat_lit 214 :: nat_lit 215 :: nat_lit 218 :: nat_lit 219 :: nat_lit 220 :: nat_lit 221 :: nat_lit 222 :: nat_lit 223 :: nat_lit 224 :: nat_lit 225 :: nat_lit 226 :: nat_lit 227 :: nat_lit 228 :: nat_lit 229 :: nat_lit 230 :: nat_lit 231 :: nat_lit 232 :: nat_lit 234 :: nat_lit 235 :: nat_lit 237 :: nat_lit 238 :: nat_lit 239 :: nat_lit 241 :: nat_lit 242 :: nat_lit 244 :: nat_lit 245 :: nat_lit 246 :: nat_lit 249 :: nat_lit 250 :: nat_lit 251 :: nat_lit 254 :: nat_lit 255 :: nat_lit 256 :: nat_lit 258 :: nat_lit 259 :: nat_lit 261 :: nat_lit 262 :: nat_lit 263 :: nat_lit 266 :: nat_lit 267 :: nat_lit 268 :: nat_lit 271 :: nat_lit 272 :: []
theorem adr_is (P : Params) : adr = (hd.heap_39 P).map (·.1) := by kernel_rfl
noncomputable def hook : Hook := kHook hd.heap_39 adr adr_is
theorem hl : LeftO (OpenRow.toRowW PySem.Challenge.rw_pq0938_01.row).prog hd.view_39 [Str.ofString "PostError"] (fun s => xlAt hd.view_39 [] s && recOk (OpenRow.toRowW PySem.Challenge.rw_pq0938_01.row).records s) (Hook.obs hook) (Hook.val hook) 3680 := by
  intro w
  unfold openEnds topFrom fencedOpening
  rw [PySem.W.Fast.te14082659384304107361, PySem.W.Fast.te4187177175401517315, PySem.W.Fast.te5923862056798008813, PySem.W.Fast.te14364793385576792824]
  kernel_rfl
theorem said : PySem.Challenge.rw_pq0938_01.wellSaid = true := by
  rw [PySem.W.Fast.te9446332074065402090]
  kernel_rfl

end
-- Base
section
abbrev Led := List (Addr × Obj)
theorem getD_all {α : Type} {P : α → Prop} {l : List α} {d : α} (h : ∀ x ∈ l, P x) (hd : P d) (n : Nat) : P (l.getD n d) := by
  rw [List.getD_eq_getElem?_getD]
  cases e : l[n]? with
  | none => exact hd
  | some x => exact h x (List.mem_of_getElem? e)

/-- a contract: whatever the caller's frame, the call ends with a value and with new objects as Out says -/
def Con (w : World) (mean : ExcName → Option Value) (mg mb : Str → Option Value) (f : Addr) (dd uu : Nat) (Pre : Led → Prop) (vs : List Value) (Out : Value → Led → Prop) : Prop :=
  ∀ (dp un : Nat) (gd : Option (List Code)) (cn : Str) (cs : Scope) (a : Addr) (ccd : Value) (cl : List (Str × Addr)) (outer : List Env) (A₀ : Around) (base h₀ : Heap) (L : Addr) (m : Str → Option Value) (news : Led) (s : Shared)
    (Q E : Value → Shared → Prop),
    Below A₀ base outer h₀ → Fr h₀ L s.heap m → (hd.heap_39 w.params).In h₀ → News h₀ L s.heap news → Top hd.view_39 (looseW hd.view_39 [Str.ofString "PostError"]) mean mg mb h₀ → cs.kind = .function → dp + dd < recursionLimit → un + uu < cLine → Pre news →
    (∀ r tl h' tk', Fr h₀ L h' m → News h₀ L h' (tl ++ news) → (∀ q ∈ news, ∀ p ∈ tl, q.1 < p.1) → Out r tl → Q r { s with heap := h', toks := tk' }) →
    wpAny (model PySem.Challenge.rw_pq0938_01.row.prog w) (ktrTop dp un gd cn cs L a ccd cl outer) (call (.ref f) vs) Q E s

end
-- Comp
section
open PySem PySem.W PyProof.Rows PySem.Spec PySem.Calls
section
variable {prog : Program} {w : World} {A : Around} {E : Value → Shared → Prop} {s : Shared} {h₀ : Heap} {L : Addr} {m : Str → Option Value} {env : Env}

def SrcS (prog : Program) (w : World) (A : Around) (h₀ : Heap) (L : Addr) (m : Str → Option Value) (env : Env) (elt : Expr) (x : Str) (scope : Scope) (cl : List (Str × Addr)) (Fin : Shared → List Value → List (Addr × Obj) → Prop) (xv : Value) (s₁ : Shared) : Prop :=
  ∃ y t news, xv = .str y t ∧ A.handled = none ∧ Fr h₀ L s₁.heap m ∧ News h₀ L s₁.heap news ∧ y.cps.size ≤ sizeLine ∧
    ∀ s₂ : Shared, (∃ h, s₂ = { s₁ with heap := h }) → LCg.CompRest prog w A h₀ L m env elt x scope cl s₂ (fun _ => True) (SignAt y) (Fin s₂) y.cps.size 0 [] news
theorem SrcS.of {elt : Expr} {x : Str} {scope : Scope} {cl : List (Str × Addr)} {Fin : Shared → List Value → List (Addr × Obj) → Prop} {y : Str} {t : Tok} {news : List (Addr × Obj)} {s₁ : Shared}
    (hh : A.handled = none) (F : Fr h₀ L s₁.heap m) (N : News h₀ L s₁.heap news) (hsz : y.cps.size ≤ sizeLine)
    (h : ∀ g, LCg.CompRest prog w A h₀ L m env elt x scope cl { s₁ with heap := g } (fun _ => True) (SignAt y) (Fin { s₁ with heap := g }) y.cps.size 0 [] news) :
    SrcS prog w A h₀ L m env elt x scope cl Fin (.str y t) s₁ := ⟨y, t, news, rfl, hh, F, N, hsz, fun _ ⟨g, e⟩ => e ▸ h g⟩
/-- a comprehension over a text's signs -/
theorem ListComp_S {elt iter : Expr} {x : Str} {px : Pos} {scope : Scope} {cl : List (Str × Addr)} {pos : Pos} {Q : Value → Shared → Prop} (F₀ : Fr h₀ L s.heap m)
    (hclos : closureFor scope env = pure cl) (hcell : ∀ y ∈ scope.names, y.2 ≠ .cell) (hkind : scope.kind = .function)
    (hnames : ∀ y ∈ scope.names, y.2 = .local → scope.names.lookup y.1 = some .local) (hx : scope.names.lookup x = some .local)
    (h : wpAny (model prog w) A (eval iter env) (SrcS prog w A h₀ L m env elt x scope cl fun s₂ => LCg.FinE h₀ L m s₂ Q) E s)
    (hs : ∀ x, foldedSetIterable iter env x = pure x := by intro _; rfl) :
    wpAny (model prog w) A (eval (.ListComp elt [⟨.Name x px, iter, [], 0⟩] scope pos) env) Q E s := by
  rw [eval_ListComp]
  refine wpAny_comprehension_free (use := none) rfl hs hclos hkind hnames (wpAny_mono h (fun xv s₁ h₁ => ?_) fun _ _ e => e)
  obtain ⟨y, t, news, rfl, hh, F, N, hsz, R⟩ := h₁
  have io : ∀ ty (i : Nat) (h : Heap), h.IsStrIter s₁.heap.objs.size ty y t i → ∃ o, h.get? s₁.heap.objs.size = some o := fun ty i h st => let ⟨o, e, _⟩ := st; ⟨o, e⟩
  have mv : ∀ ty (i : Nat) (h h' : Heap) (o : Obj), h.IsStrIter s₁.heap.objs.size ty y t i → h.get? s₁.heap.objs.size = some o → h'.get? s₁.heap.objs.size = some o → h'.IsStrIter s₁.heap.objs.size ty y t i := fun ty i h h' o st e e' => by
    obtain ⟨o', q, r⟩ := st
    rw [e] at q; cases q
    exact ⟨o, e', r⟩
  cases ha : y.cps.all (· < 128)
  · refine wpAny_pyIter_wide ha ?_
    refine LCg.block_U (Walks.strWide hh s₁.heap.objs.size y t) hsz (fun i h st => io _ i h st) (fun i h h' o nw st e e' _ _ _ => mv _ i h h' o st e e') hcell hkind hx ⟨_, Heap.get?_push_size _ rfl, rfl, rfl⟩ (fun b hb => ?_)
      (F.keeps fun _ _ e => Heap.get?_push_of_some _ e) (N.grown fun _ _ e => Heap.get?_push_of_some _ e) (Nat.ne_of_lt F.ns.lt) (next_is_new F) (fun p hp => Nat.ne_of_lt (Heap.lt_size (N p hp).1)) trivial (R _ ⟨_, rfl⟩) ?_
    · rw [List.mem_singleton.mp hb]
      show s₁.heap.objs.size < (s₁.heap.push _).objs.size
      rw [Heap.size_push]; exact Nat.lt_succ_self _
    · intro D C h' tk m' ys news' F' N' o1 hn hC₀ hD₀ hCL hDL hCD offC fin
      refine ⟨m', hn, fun h'' hs'' => fin D h'' tk (F'.change hs'' hCL hC₀) (fun p hp => ?_) o1⟩
      refine ⟨hs''.extBut _ _ ?_ (N' p hp).1, (N' p hp).2⟩
      rcases List.mem_cons.mp hp with rfl | hp
      · exact Ne.symm hCD
      · exact offC p hp
  · refine wpAny_pyIter_ascii ha ?_
    refine LCg.block_U (Walks.strAscii hh s₁.heap.objs.size y t) hsz (fun i h st => io _ i h st) (fun i h h' o nw st e e' _ _ _ => mv _ i h h' o st e e') hcell hkind hx ⟨_, Heap.get?_push_size _ rfl, rfl, rfl⟩ (fun b hb => ?_)
      (F.keeps fun _ _ e => Heap.get?_push_of_some _ e) (N.grown fun _ _ e => Heap.get?_push_of_some _ e) (Nat.ne_of_lt F.ns.lt) (next_is_new F) (fun p hp => Nat.ne_of_lt (Heap.lt_size (N p hp).1)) trivial (R _ ⟨_, rfl⟩) ?_
    · rw [List.mem_singleton.mp hb]
      show s₁.heap.objs.size < (s₁.heap.push _).objs.size
      rw [Heap.size_push]; exact Nat.lt_succ_self _
    · intro D C h' tk m' ys news' F' N' o1 hn hC₀ hD₀ hCL hDL hCD offC fin
      refine ⟨m', hn, fun h'' hs'' => fin D h'' tk (F'.change hs'' hCL hC₀) (fun p hp => ?_) o1⟩
      refine ⟨hs''.extBut _ _ ?_ (N' p hp).1, (N' p hp).2⟩
      rcases List.mem_cons.mp hp with rfl | hp
      · exact Ne.symm hCD
      · exact offC p hp

/-- the turns by an invariant over what is made and the ledger -/
theorem rest_inv {elt : Expr} {x : Str} {scope : Scope} {cl : List (Str × Addr)} {S : List (Addr × Obj) → Prop} {P : Nat → Value → Prop} {Fin : List Value → List (Addr × Obj) → Prop} {n : Nat} {news : List (Addr × Obj)}
    (J : Nat → List Value → List (Addr × Obj) → Prop) (h0 : J 0 [] news)
    (turn : ∀ i v I oI C oC D m₂ ys nw h tk (E' : Value → Shared → Prop), i < n → P i v → J i ys nw → LCg.NsObj oC m₂ → m₂ x = some v → Fr h₀ L h m → News h₀ L h ((I, oI) :: (C, oC) :: (D, LCg.lst ys) :: nw) → LCg.Off3 I C D nw → ((@Ne Nat I C) ∧ (@Ne Nat I D) ∧ (@Ne Nat C D)) →
      wpAny (model prog w) A (eval elt (compEnvC scope cl C env)) (LCg.CompEnd h₀ L m { s with heap := h, toks := tk } I oI C oC D (LCg.lst ys) S (fun y news' => J (i + 1) (ys ++ [y]) news')) E' { s with heap := h, toks := tk })
    (fin : ∀ ys nw, J n ys nw → Fin ys nw) : LCg.CompRest prog w A h₀ L m env elt x scope cl s S P Fin n 0 [] news := by
  have key : ∀ (j i : Nat) (ys : List Value) nw, i + j = n → J i ys nw → LCg.CompRest prog w A h₀ L m env elt x scope cl s S P Fin j i ys nw := by
    intro j
    induction j with
    | zero =>
      intro i ys nw hi hy
      have e : i = n := by omega
      subst e
      exact LCg.CompRest.zero (fin ys nw hy)
    | succ j ih =>
      intro i ys nw hi hy
      refine LCg.CompRest.succ ?_
      intro v I oI C oC D m₂ h tk E' hv hC hx F N off ne
      refine wpAny_mono (turn i v I oI C oC D m₂ ys nw h tk E' (by omega) hv hy hC hx F N off ne) (fun y s₂ hq => ?_) fun _ _ e => e
      obtain ⟨h', tk', nw', e, F', N', off', hS, hJ⟩ := hq
      exact ⟨h', tk', nw', e, F', N', off', hS, ih (i + 1) _ _ (by omega) hJ⟩
  exact key n 0 [] news (by omega) h0
theorem restT_inv {ct elt : Expr} {x : Str} {scope : Scope} {cl : List (Str × Addr)} {S : List (Addr × Obj) → Prop} {P : Nat → Value → Prop} {Fin : List Value → List (Addr × Obj) → Prop} {n : Nat} {news : List (Addr × Obj)}
    (J : Nat → List Value → List (Addr × Obj) → Prop) (h0 : J 0 [] news)
    (turn : ∀ i v I oI C oC D m₂ ys nw h tk (E' : Value → Shared → Prop), i < n → P i v → J i ys nw → LCg.NsObj oC m₂ → m₂ x = some v → Fr h₀ L h m → News h₀ L h ((I, oI) :: (C, oC) :: (D, LCg.lst ys) :: nw) → LCg.Off3 I C D nw → ((@Ne Nat I C) ∧ (@Ne Nat I D) ∧ (@Ne Nat C D)) →
      wpAny (model prog w) A (isTrue ct (compEnvC scope cl C env) (eval ct (compEnvC scope cl C env))) (fun ok s' => if ok = true then
        wpAny (model prog w) A (eval elt (compEnvC scope cl C env)) (LCg.CompEnd h₀ L m { s with heap := h, toks := tk } I oI C oC D (LCg.lst ys) S (fun y news' => J (i + 1) (ys ++ [y]) news')) E' s'
        else LCg.CompEnd h₀ L m { s with heap := h, toks := tk } I oI C oC D (LCg.lst ys) S (fun _ news' => J (i + 1) ys news') Value.none s') E' { s with heap := h, toks := tk })
    (fin : ∀ ys nw, J n ys nw → Fin ys nw) : LCt.CompRestT prog w A h₀ L m env ct elt x scope cl s S P Fin n 0 [] news := by
  have key : ∀ (j i : Nat) (ys : List Value) nw, i + j = n → J i ys nw → LCt.CompRestT prog w A h₀ L m env ct elt x scope cl s S P Fin j i ys nw := by
    intro j
    induction j with
    | zero =>
      intro i ys nw hi hy
      have e : i = n := by omega
      subst e
      exact LCt.CompRestT.zero (fin ys nw hy)
    | succ j ih =>
      intro i ys nw hi hy
      refine LCt.CompRestT.succ ?_
      intro v I oI C oC D m₂ h tk E' hv hC hx F N off ne
      refine wpAny_mono (turn i v I oI C oC D m₂ ys nw h tk E' (by omega) hv hy hC hx F N off ne) (fun ok s₂ hq => ?_) fun _ _ e => e
      cases ok with
      | true =>
        simp only [if_true] at hq ⊢
        refine wpAny_mono hq (fun y s₃ hr => ?_) fun _ _ e => e
        obtain ⟨h', tk', nw', e, F', N', off', hS, hJ⟩ := hr
        exact ⟨h', tk', nw', e, F', N', off', hS, ih (i + 1) _ _ (by omega) hJ⟩
      | false =>
        simp only [Bool.false_eq_true, if_false] at hq ⊢
        obtain ⟨h', tk', nw', e, F', N', off', hS, hJ⟩ := hq
        exact ⟨h', tk', nw', e, F', N', off', hS, ih (i + 1) _ _ (by omega) hJ⟩
  exact key n 0 [] news (by omega) h0
end

end
-- Plain1
section
def up (c : Nat) : Nat := if 97 ≤ c ∧ c ≤ 122 then c - 32 else c
def upS (x : Str) : Str := ⟨x.cps.map up⟩
theorem cps_a : (Str.ofString "a").cps.toList = [97] := by decide +kernel
theorem cps_z : (Str.ofString "z").cps.toList = [122] := by decide +kernel
theorem lt_sign {c d : Nat} : ([c] < [d]) ↔ c < d := by simp [List.cons_lt_cons_iff]
theorem mk_lt {c : Nat} {x : Str} {d : Nat} (e : x.cps.toList = [d]) : ({ cps := #[c] } : Str).cps.toList < x.cps.toList ↔ c < d := by rw [e]; exact lt_sign
theorem mk_gt {c : Nat} {x : Str} {d : Nat} (e : x.cps.toList = [d]) : x.cps.toList < ({ cps := #[c] } : Str).cps.toList ↔ d < c := by rw [e]; exact lt_sign
theorem strs_snoc {y : Str} {t : Tok} : ∀ {vs : List Value} {ys : List Str}, StrsAre vs ys → StrsAre (vs ++ [.str y t]) (ys ++ [y])
  | _, _, .nil => .cons y t .nil
  | _, _, .cons z u r => .cons z u (strs_snoc r)
theorem strs_next {α : Type} {l : List α} {i : Nat} {c : α} {f : α → Str} {vs : List Value} {t : Tok} (h : StrsAre vs ((l.take i).map f)) (hc : l[i]? = some c) : StrsAre (vs ++ [.str (f c) t]) ((l.take (i + 1)).map f) := by
  rw [List.take_add_one, hc]
  simpa using strs_snoc (t := t) h
theorem ints_snoc {y : Int} {t : Tok} : ∀ {vs : List Value} {ys : List Int}, IntsAre vs ys → IntsAre (vs ++ [.int y t]) (ys ++ [y])
  | _, _, .nil => .cons y t .nil
  | _, _, .cons z u r => .cons z u (ints_snoc r)
theorem ints_next {α : Type} {l : List α} {i : Nat} {c : α} {f : α → Int} {vs : List Value} {t : Tok} (h : IntsAre vs ((l.take i).map f)) (hc : l[i]? = some c) : IntsAre (vs ++ [.int (f c) t]) ((l.take (i + 1)).map f) := by
  rw [List.take_add_one, hc]
  simpa using ints_snoc (t := t) h
theorem join_empty : ∀ l : List Str, (Str.join (Str.ofString "") l).cps.toList = l.flatMap (·.cps.toList)
  | [] => rfl
  | [x] => by simp [Str.join]
  | x :: y :: r => by
    have e : Str.join (Str.ofString "") (x :: y :: r) = x ++ Str.ofString "" ++ Str.join (Str.ofString "") (y :: r) := rfl
    have e0 : (Str.ofString "").cps.toList = [] := by decide +kernel
    rw [e, List.flatMap_cons, ← join_empty (y :: r)]
    show ((x.cps ++ (Str.ofString "").cps) ++ _).toList = _
    simp [e0]
theorem join_signs (l : List Nat) : Str.join (Str.ofString "") (l.map fun c => (⟨#[c]⟩ : Str)) = ⟨l.toArray⟩ := by
  have h := join_empty (l.map fun c => (⟨#[c]⟩ : Str))
  have e : (l.map fun c => (⟨#[c]⟩ : Str)).flatMap (·.cps.toList) = l := by
    induction l with
    | nil => rfl
    | cons c r ih => rw [List.map_cons, List.flatMap_cons, ih (join_empty _)]; rfl
  rw [e] at h
  generalize Str.join _ _ = z at h ⊢
  obtain ⟨⟨z⟩⟩ := z
  simp only at h
  subst h
  rfl
theorem sum_ones (l : List Nat) : ((l.map fun c => (⟨#[c]⟩ : Str)).map (·.length)).sum = l.length := by
  induction l with
  | nil => rfl
  | cons c r ih => simp only [List.map_cons, List.sum_cons, List.length_cons, ih]; show 1 + _ = _; omega

end
-- F_upper
section
set_option maxHeartbeats 8000000
theorem up_next {x : Str} {i c : Nat} {ys : List Value} {t : Tok} {r : Str} (hS : StrsAre ys (List.map (fun c => (⟨#[c]⟩ : Str)) (List.take i (List.map up x.cps.toList)))) (hc : x.cps[i]? = some c) (e : r = ⟨#[up c]⟩) :
    StrsAre (ys ++ [.str r t]) (List.map (fun c => (⟨#[c]⟩ : Str)) (List.take (i + 1) (List.map up x.cps.toList))) := by
  subst e
  exact strs_next hS (by rw [List.getElem?_map, Array.getElem?_toList, hc]; rfl)
theorem up_done {x : Str} {ys : List Value} (hS : StrsAre ys (List.map (fun c => (⟨#[c]⟩ : Str)) (List.take x.cps.size (List.map up x.cps.toList)))) :
    StrsAre ys (List.map (fun c => (⟨#[c]⟩ : Str)) (x.cps.toList.map up)) := by
  rwa [List.take_of_length_le (by simp)] at hS
theorem up_join (x : Str) : Str.join (Str.ofString "") (List.map (fun c => (⟨#[c]⟩ : Str)) (x.cps.toList.map up)) = upS x := by
  rw [join_signs]; unfold upS; rw [← Array.toList_map, Array.toArray_toList]
/-- what a call needs and hands on, for a value that is no new object -/
theorem Con.useV {w : World} {mean : ExcName → Option Value} {mg mb : Str → Option Value} {f : Addr} {dd uu : Nat} {Pre : Led → Prop} {vs : List Value} {Out : Value → Led → Prop}
    {dp un : Nat} {gd : Option (List Code)} {cn : Str} {cs : Scope} {a : Addr} {ccd : Value} {cl : List (Str × Addr)} {outer : List Env} {A₀ : Around} {base h₀ : Heap} {L : Addr} {m : Str → Option Value} {news : Led} {s : Shared} {Q E : Value → Shared → Prop}
    (C : Con w mean mg mb f dd uu Pre vs Out) (B : Below A₀ base outer h₀) (F : Fr h₀ L s.heap m) (X : (hd.heap_39 w.params).In h₀) (N : News h₀ L s.heap news) (T : Top hd.view_39 (looseW hd.view_39 [Str.ofString "PostError"]) mean mg mb h₀) (hk : cs.kind = .function)
    (hd : dp + dd < recursionLimit) (hu : un + uu < cLine) (hp : Pre news)
    (ret : ∀ r tl h' tk', Fr h₀ L h' m → News h₀ L h' (tl ++ news) → (∀ q ∈ news, ∀ p ∈ tl, q.1 < p.1) → Out r tl → Q r { s with heap := h', toks := tk' }) :
    wpAny (model PySem.Challenge.rw_pq0938_01.row.prog w) (ktrTop dp un gd cn cs L a ccd cl outer) (call (.ref f) vs) Q E s := C _ _ _ _ _ _ _ _ _ _ _ _ _ _ _ _ _ _ B F X N T hk hd hu hp ret
section
local macro_rules | `(tactic| walk_at "eval ListComp") => `(tactic| (k_here; k_dflt (refine ListComp_S (F₀ := by k_asm) (by with_unfolding_all rfl) (by decide) (by rfl) (by decide) (by rfl) ?_)))
theorem c_upper_text (w : World) (mean mg mb) (x : Str) (t : Tok) (hx : x.length ≤ 1048576 / 2) : Con w mean mg mb 95 1 20 (fun _ => True) [.str x t] (fun r tl => tl = [] ∧ ∃ t, r = .str (upS x) t) := by
  unfold Con
  k_fill
  intro dp un gd cn cs a ccd cl outer A₀ base h₀ L m news s Q E B F X N T hk hd hu hp hret
  refine wpAny_call ?_
  k_dflt cell_enter
  k_steps
  refine SrcS.of (by rfl) (by k_asm) (by k_asm) (by show x.length ≤ _; rw [PySem.sizeLine_eq]; omega) ?_
  intro g
  refine rest_inv (fun i ys nw => nw = news ∧ StrsAre ys (((x.cps.toList.map up).take i).map fun c => (⟨#[c]⟩ : Str))) ⟨rfl, .nil⟩ ?_ ?_
  · rintro i v I oI C oC D m₂ ys nw h tk E' hi ⟨c, u, hc, rfl⟩ ⟨rfl, hS⟩ hC hx2 F2 N2 off ne
    k_steps
    · rename_i hlt
      have hlt := (mk_lt cps_a).mp hlt
      exact LCg.CompEnd.intro (by assumption) (by assumption) _ (fun _ hp => hp) off trivial ⟨rfl, up_next hS hc (by unfold up; rw [if_neg (by omega)])⟩
    · rename_i hge hgt
      have hgt := (mk_gt cps_z).mp hgt
      exact LCg.CompEnd.intro (by assumption) (by assumption) _ (fun _ hp => hp) off trivial ⟨rfl, up_next hS hc (by unfold up; rw [if_neg (by omega)])⟩
    · rename_i hge hle
      have hge : ¬ c < 97 := fun q => hge ((mk_lt cps_a).mpr q)
      have hle : ¬ 122 < c := fun q => hle ((mk_gt cps_z).mpr q)
      refine chr_of_range (by omega) (by omega) ?_
      k_steps
      exact LCg.CompEnd.intro (by assumption) (by assumption) _ (fun _ hp => hp) off trivial ⟨rfl, up_next hS hc (by unfold up; rw [if_pos (by omega)]; congr; omega)⟩
  · rintro ys nw ⟨rfl, hS⟩
    k_steps
    refine join_listW (News.isList (by assumption) (.head _)) (up_done hS) (by decide +kernel) (by rw [sum_ones]; simp only [List.length_map, Array.length_toList]; have : x.cps.size = x.length := rfl; omega) ?_
    intro t9 k9
    rw [show Txt.join (Str.ofString "") (List.map (fun c => (⟨#[c]⟩ : Str)) (x.cps.toList.map up)) = upS x from (StrLaws.glued_eq_join _ _).trans (up_join x)]
    k_steps
    exact hret _ [] _ _ (by k_asm) (cb_drop (by assumption) fun _ hp => .tail _ hp) (fun _ _ _ h9 => nomatch h9) ⟨rfl, _, rfl⟩
end

end
-- Cnt
section
abbrev tupOf (vs : List Value) : Obj := { cls := .type "tuple", data := .seq vs.toArray }
theorem lt_one {D : Addr} {o : Obj} {news : Led} (h : ∀ p ∈ news, p.1 < D) : ∀ q ∈ news, ∀ p ∈ [(D, o)], q.1 < p.1 := fun q hq p hp => by rw [List.mem_singleton.mp hp]; exact h q hq
theorem lt_nil {news : Led} : ∀ q ∈ news, ∀ p ∈ ([] : Led), q.1 < p.1 := fun _ _ _ h => nomatch h
theorem lt_of {D : Addr} {o : Obj} {news tl : Led} (h : ∀ q ∈ news, ∀ p ∈ (D, o) :: tl, q.1 < p.1) : ∀ p ∈ news, p.1 < D := fun q hq => h q hq _ (.head _)
section
variable {w : World} {mean : ExcName → Option Value} {mg mb : Str → Option Value} {f : Addr} {dd uu : Nat} {Pre : Led → Prop} {vs : List Value}
    {dp un : Nat} {gd : Option (List Code)} {cn : Str} {cs : Scope} {a : Addr} {ccd : Value} {cl : List (Str × Addr)} {outer : List Env} {A₀ : Around} {base h₀ : Heap} {L : Addr} {m : Str → Option Value} {news : Led} {s : Shared} {Q E : Value → Shared → Prop}
abbrev ConS (w : World) (mean : ExcName → Option Value) (mg mb : Str → Option Value) (f : Addr) (dd uu : Nat) (Pre : Led → Prop) (vs : List Value) (y : Str) : Prop := Con w mean mg mb f dd uu Pre vs fun r tl => tl = [] ∧ ∃ t, r = .str y t
abbrev ConB (w : World) (mean : ExcName → Option Value) (mg mb : Str → Option Value) (f : Addr) (dd uu : Nat) (Pre : Led → Prop) (vs : List Value) (y : Bool) : Prop := Con w mean mg mb f dd uu Pre vs fun r tl => tl = [] ∧ r = .bool y
abbrev ConI (w : World) (mean : ExcName → Option Value) (mg mb : Str → Option Value) (f : Addr) (dd uu : Nat) (Pre : Led → Prop) (vs : List Value) (y : Int) : Prop := Con w mean mg mb f dd uu Pre vs fun r tl => tl = [] ∧ ∃ t, r = .int y t
/-- a new object -/
abbrev ConO (w : World) (mean : ExcName → Option Value) (mg mb : Str → Option Value) (f : Addr) (dd uu : Nat) (Pre : Led → Prop) (vs : List Value) (O : Obj → Prop) : Prop := Con w mean mg mb f dd uu Pre vs fun r tl => ∃ D o, tl = [(D, o)] ∧ r = .ref D ∧ O o
theorem useS {y : Str} (C : ConS w mean mg mb f dd uu Pre vs y) (B : Below A₀ base outer h₀) (F : Fr h₀ L s.heap m) (X : (hd.heap_39 w.params).In h₀) (N : News h₀ L s.heap news) (T : Top hd.view_39 (looseW hd.view_39 [Str.ofString "PostError"]) mean mg mb h₀) (hk : cs.kind = .function)
    (hd : dp + dd < recursionLimit) (hu : un + uu < cLine) (hp : Pre news) (ret : ∀ t h' tk', Fr h₀ L h' m → News h₀ L h' news → Q (.str y t) { s with heap := h', toks := tk' }) :
    wpAny (model PySem.Challenge.rw_pq0938_01.row.prog w) (ktrTop dp un gd cn cs L a ccd cl outer) (call (.ref f) vs) Q E s :=
  C _ _ _ _ _ _ _ _ _ _ _ _ _ _ _ _ _ _ B F X N T hk hd hu hp fun r tl h' tk' F' N' _ ho => by obtain ⟨rfl, t, rfl⟩ := ho; exact ret t h' tk' F' N'
theorem useB {y : Bool} (C : ConB w mean mg mb f dd uu Pre vs y) (B : Below A₀ base outer h₀) (F : Fr h₀ L s.heap m) (X : (hd.heap_39 w.params).In h₀) (N : News h₀ L s.heap news) (T : Top hd.view_39 (looseW hd.view_39 [Str.ofString "PostError"]) mean mg mb h₀) (hk : cs.kind = .function)
    (hd : dp + dd < recursionLimit) (hu : un + uu < cLine) (hp : Pre news) (ret : ∀ (_ : Nat) h' tk', Fr h₀ L h' m → News h₀ L h' news → Q (.bool y) { s with heap := h', toks := tk' }) :
    wpAny (model PySem.Challenge.rw_pq0938_01.row.prog w) (ktrTop dp un gd cn cs L a ccd cl outer) (call (.ref f) vs) Q E s :=
  C _ _ _ _ _ _ _ _ _ _ _ _ _ _ _ _ _ _ B F X N T hk hd hu hp fun r tl h' tk' F' N' _ ho => by obtain ⟨rfl, rfl⟩ := ho; exact ret 0 h' tk' F' N'
theorem useI {y : Int} (C : ConI w mean mg mb f dd uu Pre vs y) (B : Below A₀ base outer h₀) (F : Fr h₀ L s.heap m) (X : (hd.heap_39 w.params).In h₀) (N : News h₀ L s.heap news) (T : Top hd.view_39 (looseW hd.view_39 [Str.ofString "PostError"]) mean mg mb h₀) (hk : cs.kind = .function)
    (hd : dp + dd < recursionLimit) (hu : un + uu < cLine) (hp : Pre news) (ret : ∀ t h' tk', Fr h₀ L h' m → News h₀ L h' news → Q (.int y t) { s with heap := h', toks := tk' }) :
    wpAny (model PySem.Challenge.rw_pq0938_01.row.prog w) (ktrTop dp un gd cn cs L a ccd cl outer) (call (.ref f) vs) Q E s :=
  C _ _ _ _ _ _ _ _ _ _ _ _ _ _ _ _ _ _ B F X N T hk hd hu hp fun r tl h' tk' F' N' _ ho => by obtain ⟨rfl, t, rfl⟩ := ho; exact ret t h' tk' F' N'
theorem useO {O : Obj → Prop} (C : ConO w mean mg mb f dd uu Pre vs O) (B : Below A₀ base outer h₀) (F : Fr h₀ L s.heap m) (X : (hd.heap_39 w.params).In h₀) (N : News h₀ L s.heap news) (T : Top hd.view_39 (looseW hd.view_39 [Str.ofString "PostError"]) mean mg mb h₀) (hk : cs.kind = .function)
    (hd : dp + dd < recursionLimit) (hu : un + uu < cLine) (hp : Pre news) (ret : ∀ D o h' tk', O o → Fr h₀ L h' m → News h₀ L h' ((D, o) :: news) → (∀ p ∈ news, p.1 < D) → Q (.ref D) { s with heap := h', toks := tk' }) :
    wpAny (model PySem.Challenge.rw_pq0938_01.row.prog w) (ktrTop dp un gd cn cs L a ccd cl outer) (call (.ref f) vs) Q E s :=
  C _ _ _ _ _ _ _ _ _ _ _ _ _ _ _ _ _ _ B F X N T hk hd hu hp fun r tl h' tk' F' N' hl ho => by obtain ⟨D, o, rfl, rfl, hO⟩ := ho; exact ret D o h' tk' hO F' N' (lt_of hl)
end

end
-- F_first
section
set_option maxHeartbeats 8000000

def headS (x : Str) : Str := if Txt.find x (Str.ofString "/") < 0 then x else Txt.slice x none (some (Txt.find x (Str.ofString "/")))
def restS (x : Str) : Str := if Txt.find x (Str.ofString "/") < 0 then Str.ofString "" else Txt.slice x (some (Txt.find x (Str.ofString "/"))) none
def normS (x : Str) : Str := if upS (headS x) = Str.ofString "INBOX" then Str.ofString "INBOX" ++ restS x else x
def isTup2 (x y : Str) (n : Nat) (o : Obj) : Prop := ∃ t u, o = tupOf [.str x t, .str y u] ∧ x.length ≤ n ∧ y.length ≤ n
theorem headS_le (x : Str) : (headS x).length ≤ x.length := by unfold headS; split; exact Nat.le_refl _; exact PyProof.Txt.length_slice_le _ _ _
theorem restS_le (x : Str) : (restS x).length ≤ x.length := by unfold restS; split; exact Nat.zero_le _; exact PyProof.Txt.length_slice_le _ _ _
theorem c_first_part (w : World) (mean mg mb) (x : Str) (t : Tok) (hx : x.length ≤ 1048576 / 2) : ConO w mean mg mb 144 1 20 (fun _ => True) [.str x t] (isTup2 (headS x) (restS x) x.length) := by
  try unfold ConS
  try unfold ConB
  try unfold ConI
  try unfold ConO
  unfold Con
  k_fill
  intro dp un gd cn cs a ccd cl outer A₀ base h₀ L m news s Q E B F X N T hk hd hu hp hret
  refine wpAny_call ?_
  k_dflt cell_enter
  k_steps
  · rename_i hlt _ _ _ _ _ _ _ _ _ _
    exact hret _ [(_, _)] _ _ (by k_asm) (by k_asm) (lt_one (by assumption)) ⟨_, _, rfl, rfl, _, _, by unfold headS restS; rw [if_pos (by assumption), if_pos (by assumption)], headS_le x, restS_le x⟩
  · exact hret _ [(_, _)] _ _ (by k_asm) (by k_asm) (lt_one (by assumption)) ⟨_, _, rfl, rfl, _, _, by unfold headS restS; rw [if_neg (by assumption), if_neg (by assumption)], headS_le x, restS_le x⟩
section
local macro_rules | `(tactic| walk_at "call ref") => `(tactic| (k_here; (with_reducible show wpAny _ _ (call (Value.ref 95) [Value.str _ _]) _ _ _); k_dflt (refine' useS (c_upper_text _ _ _ _ _ _ ?hx) ?k1 ?k2 ?k3 ?k4 ?k5 ?kK ?kd ?ku ?kp ?_); walk_at "mine ctx"; (case kp => trivial); (case hx => first | assumption | omega); intro t9 h9 tk9 F9 N9; (try dsimp only); (try k_fold)))
local macro_rules | `(tactic| walk_at "call ref") => `(tactic| (k_here; (with_reducible show wpAny _ _ (call (Value.ref 144) [Value.str _ _]) _ _ _); k_dflt (refine' useO (c_first_part _ _ _ _ _ _ ?hx) ?k1 ?k2 ?k3 ?k4 ?k5 ?kK ?kd ?ku ?kp ?_); walk_at "mine ctx"; (case kp => trivial); (case hx => first | assumption | omega); intro D9 o9 h9 tk9 O9 F9 N9 l9; (obtain ⟨t9, u9, e9, hl9, hr9⟩ := O9; subst e9); (try dsimp only); (try k_fold)))

theorem c_normal_name (w : World) (mean mg mb) (x : Str) (t : Tok) (hx : x.length ≤ 1048576 / 4) : ConS w mean mg mb 151 2 40 (fun _ => True) [.str x t] (normS x) := by
  try unfold ConS
  try unfold ConB
  try unfold ConI
  try unfold ConO
  unfold Con
  k_fill
  intro dp un gd cn cs a ccd cl outer A₀ base h₀ L m news s Q E B F X N T hk hd hu hp hret
  refine wpAny_call ?_
  k_dflt cell_enter
  k_steps
  · exact hret _ [] _ _ (by k_asm) (cb_drop (by assumption) (by intro _ hp; repeat (first | exact hp | refine List.Mem.tail _ ?_))) lt_nil ⟨rfl, _, by unfold normS; rw [if_pos (eq_of_beq (by assumption))]⟩
  · exact hret _ [] _ _ (by k_asm) (cb_drop (by assumption) (by intro _ hp; repeat (first | exact hp | refine List.Mem.tail _ ?_))) lt_nil ⟨rfl, _, by unfold normS; rw [if_neg (ne_of_beq_false (by assumption))]⟩
end

end
-- F_small
section
set_option maxHeartbeats 8000000

def isPlain (x : Int) : Bool := decide (32 ≤ x) && decide (x ≤ 126)
def isHalf (x : Int) : Bool := decide (55296 ≤ x) && decide (x ≤ 57343)
def isBarred (x : Int) : Bool := decide (x < 32) || (decide (127 ≤ x) && decide (x ≤ 159)) || x == 8232 || x == 8233 || isHalf x
def wholeS (r p : Str) : Str := if Txt.startswith p (Str.ofString "/") = true then Txt.slice p (some 1) none else r ++ p
def metS (wanted sign : Str) (any : Bool) : Bool := if any = true then upS wanted == sign else wanted == sign
def anyLen (name : Str) : Int := if (headS name == Str.ofString "INBOX") = true then 5 else 0
theorem c_is_plain (w : World) (mean mg mb) (x : Int) (t : Tok) : ConB w mean mg mb 102 1 20 (fun _ => True) [.int x t] (isPlain x) := by
  try unfold ConS
  try unfold ConB
  try unfold ConI
  try unfold ConO
  unfold Con
  k_fill
  intro dp un gd cn cs a ccd cl outer A₀ base h₀ L m news s Q E B F X N T hk hd hu hp hret
  refine wpAny_call ?_
  k_dflt cell_enter
  k_steps
  · exact hret _ [] _ _ (by k_asm) (cb_drop (by assumption) (by intro _ hp; repeat (first | exact hp | refine List.Mem.tail _ ?_))) lt_nil ⟨rfl, by (unfold isPlain; simp_all <;> (try omega))⟩
  · exact hret _ [] _ _ (by k_asm) (cb_drop (by assumption) (by intro _ hp; repeat (first | exact hp | refine List.Mem.tail _ ?_))) lt_nil ⟨rfl, by (unfold isPlain; simp_all <;> (try omega))⟩
theorem c_is_half (w : World) (mean mg mb) (x : Int) (t : Tok) : ConB w mean mg mb 109 1 20 (fun _ => True) [.int x t] (isHalf x) := by
  try unfold ConS
  try unfold ConB
  try unfold ConI
  try unfold ConO
  unfold Con
  k_fill
  intro dp un gd cn cs a ccd cl outer A₀ base h₀ L m news s Q E B F X N T hk hd hu hp hret
  refine wpAny_call ?_
  k_dflt cell_enter
  k_steps
  · exact hret _ [] _ _ (by k_asm) (cb_drop (by assumption) (by intro _ hp; repeat (first | exact hp | refine List.Mem.tail _ ?_))) lt_nil ⟨rfl, by (unfold isHalf; simp_all <;> (try omega))⟩
  · exact hret _ [] _ _ (by k_asm) (cb_drop (by assumption) (by intro _ hp; repeat (first | exact hp | refine List.Mem.tail _ ?_))) lt_nil ⟨rfl, by (unfold isHalf; simp_all <;> (try omega))⟩
theorem c_whole (w : World) (mean mg mb) (r p : Str) (t u : Tok) (hr : r.length ≤ 1048576 / 4) (hp : p.length ≤ 1048576 / 4) : ConS w mean mg mb 214 1 20 (fun _ => True) [.str r t, .str p u] (wholeS r p) := by
  try unfold ConS
  try unfold ConB
  try unfold ConI
  try unfold ConO
  unfold Con
  k_fill
  intro dp un gd cn cs a ccd cl outer A₀ base h₀ L m news s Q E B F X N T hk hd hu hp2 hret
  refine wpAny_call ?_
  k_dflt cell_enter
  k_steps
  · exact hret _ [] _ _ (by k_asm) (cb_drop (by assumption) (by intro _ hp; repeat (first | exact hp | refine List.Mem.tail _ ?_))) lt_nil ⟨rfl, _, by unfold wholeS; rw [if_pos (by assumption)]⟩
  · exact hret _ [] _ _ (by k_asm) (cb_drop (by assumption) (by intro _ hp; repeat (first | exact hp | refine List.Mem.tail _ ?_))) lt_nil ⟨rfl, _, by unfold wholeS; rw [if_neg (by simp_all)]⟩
section
local macro_rules | `(tactic| walk_at "call ref") => `(tactic| (k_here; (with_reducible show wpAny _ _ (call (Value.ref 109) [Value.int _ _]) _ _ _); k_dflt (refine' useB (c_is_half _ _ _ _ _ _) ?k1 ?k2 ?k3 ?k4 ?k5 ?kK ?kd ?ku ?kp ?_); walk_at "mine ctx"; (case kp => trivial); intro t9 h9 tk9 F9 N9; (try dsimp only); (try k_fold)))

theorem c_is_barred (w : World) (mean mg mb) (x : Int) (t : Tok) : ConB w mean mg mb 158 2 40 (fun _ => True) [.int x t] (isBarred x) := by
  try unfold ConS
  try unfold ConB
  try unfold ConI
  try unfold ConO
  unfold Con
  k_fill
  intro dp un gd cn cs a ccd cl outer A₀ base h₀ L m news s Q E B F X N T hk hd hu hp hret
  refine wpAny_call ?_
  k_dflt cell_enter
  k_steps
  all_goals exact hret _ [] _ _ (by k_asm) (cb_drop (by assumption) (by intro _ hp; repeat (first | exact hp | refine List.Mem.tail _ ?_))) lt_nil ⟨rfl, by (unfold isBarred; simp_all <;> (try (intro q; omega)))⟩
end
section
local macro_rules | `(tactic| walk_at "call ref") => `(tactic| (k_here; (with_reducible show wpAny _ _ (call (Value.ref 95) [Value.str _ _]) _ _ _); k_dflt (refine' useS (c_upper_text _ _ _ _ _ _ ?hx) ?k1 ?k2 ?k3 ?k4 ?k5 ?kK ?kd ?ku ?kp ?_); walk_at "mine ctx"; (case kp => trivial); (case hx => first | assumption | omega); intro t9 h9 tk9 F9 N9; (try dsimp only); (try k_fold)))
local macro_rules | `(tactic| walk_at "call ref") => `(tactic| (k_here; (with_reducible show wpAny _ _ (call (Value.ref 144) [Value.str _ _]) _ _ _); k_dflt (refine' useO (c_first_part _ _ _ _ _ _ ?hx) ?k1 ?k2 ?k3 ?k4 ?k5 ?kK ?kd ?ku ?kp ?_); walk_at "mine ctx"; (case kp => trivial); (case hx => first | assumption | omega); intro D9 o9 h9 tk9 O9 F9 N9 l9; (obtain ⟨t9, u9, e9, hl9, hr9⟩ := O9; subst e9); (try dsimp only); (try k_fold)))

theorem c_is_met (w : World) (mean mg mb) (x y : Str) (b : Bool) (t u : Tok) (hx : x.length ≤ 1048576 / 4) : ConB w mean mg mb 186 2 40 (fun _ => True) [.str x t, .str y u, .bool b] (metS x y b) := by
  try unfold ConS
  try unfold ConB
  try unfold ConI
  try unfold ConO
  unfold Con
  k_fill
  intro dp un gd cn cs a ccd cl outer A₀ base h₀ L m news s Q E B F X N T hk hd hu hp hret
  refine wpAny_call ?_
  k_dflt cell_enter
  k_steps
  · exact hret _ [] _ _ (by k_asm) (cb_drop (by assumption) (by intro _ hp; repeat (first | exact hp | refine List.Mem.tail _ ?_))) lt_nil ⟨rfl, by unfold metS; simp_all⟩
  · exact hret _ [] _ _ (by k_asm) (cb_drop (by assumption) (by intro _ hp; repeat (first | exact hp | refine List.Mem.tail _ ?_))) lt_nil ⟨rfl, by unfold metS; simp_all⟩
theorem c_any_len (w : World) (mean mg mb) (x : Str) (t : Tok) (hx : x.length ≤ 1048576 / 4) : ConI w mean mg mb 200 2 40 (fun _ => True) [.str x t] (anyLen x) := by
  try unfold ConS
  try unfold ConB
  try unfold ConI
  try unfold ConO
  unfold Con
  k_fill
  intro dp un gd cn cs a ccd cl outer A₀ base h₀ L m news s Q E B F X N T hk hd hu hp hret
  refine wpAny_call ?_
  k_dflt cell_enter
  k_steps
  · exact hret _ [] _ _ (by k_asm) (cb_drop (by assumption) (by intro _ hp; repeat (first | exact hp | refine List.Mem.tail _ ?_))) lt_nil ⟨rfl, _, by unfold anyLen; rw [if_pos (by assumption)]; rfl⟩
  · exact hret _ [] _ _ (by k_asm) (cb_drop (by assumption) (by intro _ hp; repeat (first | exact hp | refine List.Mem.tail _ ?_))) lt_nil ⟨rfl, _, by unfold anyLen; rw [if_neg (ne_true_of_eq_false (by assumption))]⟩
end

end
-- Loop
section
open PySem PySem.W PyProof.Rows PySem.Spec PySem.Calls
section
variable {prog : Program} {w : World} {A : Around} {E : Value → Shared → Prop} {s : Shared} {env : Env} {h₀ : Heap} {L : Addr} {x : Str} {body : List Stmt} {Q : Flow → Shared → Prop} {σ : Type}

theorem kstB_same {ps : List (Str × Value)} {m : Str → Option Value} (h : ∀ p ∈ ps, m p.1 = some p.2) : kstB m ps = m := by
  funext z
  exact kstB_eq h fun _ => rfl

/-- where a for's turn goes on -/
def ForNext (h₀ : Heap) (L : Addr) (I : Addr) (oI : Obj) (Led : σ → Led) (ps : σ → List (Str × Value)) (P : σ → Prop) (s₁ s₂ : Shared) : Prop :=
  ∃ (c : σ) (h' : Heap) (tk : Nat) (m' : Str → Option Value) (all : List (Addr × Obj)), s₂ = { s₁ with heap := h', toks := tk } ∧ Fr h₀ L h' m' ∧ News h₀ L h' all ∧ (∀ p ∈ (I, oI) :: Led c, p ∈ all) ∧ (∀ p ∈ Led c, p.1 ≠ I) ∧ (∀ p ∈ ps c, m' p.1 = some p.2) ∧ P c
theorem ForNext.intro {I : Addr} {oI : Obj} {Led : σ → Led} {ps : σ → List (Str × Value)} {P : σ → Prop} {s₁ : Shared} (c : σ) {h' : Heap} {tk : Nat} {m' : Str → Option Value} {all : List (Addr × Obj)}
    (F : Fr h₀ L h' m') (N : News h₀ L h' all) (hs : ∀ p ∈ (I, oI) :: Led c, p ∈ all) (ho : ∀ p ∈ Led c, p.1 ≠ I) (hk : ∀ p ∈ ps c, m' p.1 = some p.2) (hp : P c) :
    ForNext h₀ L I oI Led ps P s₁ { s₁ with heap := h', toks := tk } := ⟨c, h', tk, m', all, rfl, F, N, hs, ho, hk, hp⟩
def ForPost (h₀ : Heap) (L : Addr) (I : Addr) (oI : Obj) (Led : σ → Led) (ps : σ → List (Str × Value)) (P : σ → Prop) (s₁ : Shared) (Q : Flow → Shared → Prop) (f : Flow) (s₂ : Shared) : Prop :=
  match f with
  | .ret v => Q (.ret v) s₂
  | .brk => Q .next s₂
  | _ => ForNext h₀ L I oI Led ps P s₁ s₂

theorem for_core {I : Addr} {fp : List Addr} {n : Nat} {V : Nat → Value → Prop} {St : Nat → Heap → Prop} {m₀ : Str → Option Value} (Led : σ → Led) (ps : σ → List (Str × Value)) (P : Nat → σ → Prop) (c₀ : σ) (hLe : env.locals = L)
    (W : Walks prog w A I fp [I] n V St) (hIo : ∀ i h, St i h → ∃ o, h.get? I = some o) (hLf : L ∉ fp) (hI : h₀.get? I = none)
    (hsrc : ∀ b ∈ fp, b = I ∨ (∃ o, h₀.get? b = some o) ∨ ∃ o, ∀ i c, P i c → (b, o) ∈ Led c)
    (hnw : ∀ p ∈ Led c₀, p.1 ≠ I) (hst : St 0 s.heap) (F : Fr h₀ L s.heap m₀) (N : News h₀ L s.heap (Led c₀)) (hk : ∀ p ∈ ps c₀, m₀ p.1 = some p.2) (hp : P 0 c₀)
    (turn : ∀ i v c (u : Str → Option Value) oI h tk, i < n → V i v → P i c → (∀ p ∈ Led c, p.1 ≠ I) → Fr h₀ L h (fun y => if y = x then some v else kstB u (ps c) y) → News h₀ L h ((I, oI) :: Led c) →
      wpAny (model prog w) A (execs body env) (ForPost h₀ L I oI Led ps (P (i + 1)) { s with heap := h, toks := tk } Q) E { s with heap := h, toks := tk })
    (done : ∀ c (u : Str → Option Value) h tk, P n c → Fr h₀ L h (kstB u (ps c)) → News h₀ L h (Led c) → Q .next { s with heap := h, toks := tk }) :
    LoopAtV prog w A h₀ env x body Q E (.ref I) s := by
  subst hLe
  refine ⟨I, fp, [I], n, V, St, m₀, Led c₀, (fun i m nx => ∃ c, nx = Led c ∧ (∀ p ∈ ps c, m p.1 = some p.2) ∧ P i c), rfl, W, hLf, ?_, ?_, hst, F, N, ⟨c₀, rfl, hk, hp⟩, ?_, ?_⟩
  · intro b hb
    rw [List.mem_singleton.mp hb]; exact hI
  · intro p hp hb
    exact hnw p hp (List.mem_singleton.mp hb)
  · rintro i v m₁ news₁ s₁ own ⟨hh, tk, rfl⟩ hin hV ⟨c, rfl, h1, hP⟩ hoff hown hget hall hst₁ F₁ N₁
    obtain ⟨oI, hoI⟩ := hIo _ _ hst₁
    have hIm : (I, oI) ∈ own := hall I (W.sub I (List.mem_singleton.mpr rfl)) hI oI hoI
    have N₂ : News h₀ env.locals hh ((I, oI) :: Led c) := fun p hp => N₁ p (by
      rcases List.mem_cons.mp hp with rfl | hp
      · exact List.mem_append_left _ hIm
      · exact List.mem_append_right _ hp)
    have F₂ : Fr h₀ env.locals hh (fun y => if y = x then some v else kstB m₁ (ps c) y) := by rw [kstB_same h1]; exact F₁
    refine wpAny_mono (turn i v c m₁ oI hh tk hin hV hP (fun p hp q => hoff p hp (List.mem_singleton.mpr q)) F₂ N₂) (fun f s₂ p => ?_) fun _ _ e => e
    have fin : ForNext h₀ env.locals I oI Led ps (P (i + 1)) { s with heap := hh, toks := tk } s₂ →
        LoopStepU h₀ env.locals [I] own (fun m nx => ∃ c, nx = Led c ∧ (∀ p ∈ ps c, m p.1 = some p.2) ∧ P (i + 1) c) { s with heap := hh, toks := tk } .next s₂ := by
      rintro ⟨c', h', tk', m', all, rfl, F', N', hs, ho, hk', hP'⟩
      refine ⟨rfl, h', tk', m', Led c', rfl, F', ?_, fun p hp q => ho p hp (List.mem_singleton.mp q), c', rfl, hk', hP'⟩
      intro p hp
      rcases List.mem_append.mp hp with hp | hp
      · have hg := hget p hp
        rcases hsrc p.1 (hown p hp) with e | ⟨o, e⟩ | ⟨o, e⟩
        · have hg' : hh.get? I = some p.2 := by rw [← e]; exact hg
          rw [hoI] at hg'
          have : p = (I, oI) := Prod.ext e (Option.some.inj hg').symm
          rw [this]; exact N' _ (hs _ (.head _))
        · have := (N₁ p (List.mem_append_left _ hp)).2.2
          rw [e] at this; cases this
        · have hg' := (N₂ (p.1, o) (.tail _ (e i c hP))).1
          simp only [] at hg'
          rw [hg] at hg'
          have : p = (p.1, o) := Prod.ext rfl (Option.some.inj hg')
          rw [this]; exact N' _ (hs _ (.tail _ (e (i + 1) c' hP')))
      · exact N' p (hs p (.tail _ hp))
    cases f with
    | ret v => exact .ret p
    | brk => exact .brk p
    | next => exact .next (fin p)
    | cont => exact .cont (fin p)
  · rintro h' tk m' news' F' N' _ ⟨c, rfl, hk', hP'⟩
    refine done c m' h' tk hP' ?_ N'
    rw [kstB_same hk']; exact F'

theorem for_list {l : Addr} {vs : Array Value} {nn : Nat} {m₀ : Str → Option Value} (Led : σ → Led) (ps : σ → List (Str × Value)) (P : Nat → σ → Prop) (c₀ : σ) (hLe : env.locals = L)
    (hh : A.handled = none) (hl : ∀ i c, P i c → (l, listOf vs nn) ∈ Led c) (F : Fr h₀ L s.heap m₀) (N : News h₀ L s.heap (Led c₀)) (hk : ∀ p ∈ ps c₀, m₀ p.1 = some p.2) (hp : P 0 c₀)
    (turn : ∀ i v c (u : Str → Option Value) I oI h tk, vs[i]? = some v → P i c → (∀ p ∈ Led c₀, p.1 < I) → (∀ p ∈ Led c, p.1 ≠ I) → Fr h₀ L h (fun y => if y = x then some v else kstB u (ps c) y) → News h₀ L h ((I, oI) :: Led c) →
      wpAny (model prog w) A (execs body env) (ForPost h₀ L I oI Led ps (P (i + 1)) { s with heap := h, toks := tk } Q) E { s with heap := h, toks := tk })
    (done : ∀ c (u : Str → Option Value) h tk, P vs.size c → Fr h₀ L h (kstB u (ps c)) → News h₀ L h (Led c) → Q .next { s with heap := h, toks := tk }) :
    wpAny (model prog w) A (pyIter (.ref l)) (fun it s₂ => LoopAtV prog w A h₀ env x body Q E it s₂) E s := by
  subst hLe
  have hl₀ := hl 0 c₀ hp
  have hol : s.heap.get? l = some (listOf vs nn) := (N _ hl₀).1
  have hls : s.heap.IsList l vs := ⟨_, hol, rfl, nn, rfl⟩
  have hne : l ≠ s.heap.objs.size := Nat.ne_of_lt (Heap.lt_size hol)
  refine wpAny_pyIter_list hls ?_
  refine for_core Led ps P c₀ rfl (Walks.list (prog := prog) (w := w) hh s.heap.objs.size l hne vs) (fun i h st => by obtain ⟨o, e, _⟩ := st.1; exact ⟨o, e⟩) ?_ (next_is_new F) ?_ (fun p hp => Nat.ne_of_lt (Heap.lt_size (N p hp).1)) ⟨⟨_, Heap.get?_push_size _ rfl, rfl, rfl⟩, hls.push _⟩
    (F.push _) (fun p hp => ⟨Heap.get?_push_of_some _ (N p hp).1, (N p hp).2⟩) hk hp ?_ done
  · intro hm
    rcases List.mem_cons.mp hm with e | hm
    · exact absurd F.ns.lt (e ▸ Nat.lt_irrefl _)
    · exact (N _ hl₀).2.1 (List.mem_singleton.mp hm).symm
  · intro b hb
    rcases List.mem_cons.mp hb with e | hb
    · exact .inl e
    · exact .inr (.inr ⟨_, fun i c hP => by rw [List.mem_singleton.mp hb]; exact hl i c hP⟩)
  · intro i v c u oI h tk hi hV hP ho F₁ N₁
    exact turn i v c u _ oI h tk hV hP (fun p hp => Heap.lt_size (N p hp).1) ho F₁ N₁
theorem for_range {r : Addr} {a₀ b₀ : Int} {t₀ u₀ v₀ : Tok} {n : Nat} {m₀ : Str → Option Value} (Led : σ → Led) (ps : σ → List (Str × Value)) (P : Nat → σ → Prop) (c₀ : σ) (hLe : env.locals = L)
    (hh : A.handled = none) (hr : IsRange s.heap r a₀ b₀ 1 t₀ u₀ v₀) (hsmall : Builtin.Range.small a₀ b₀ 1 = true) (hn : Builtin.Range.rangeSize a₀ b₀ 1 = (n : Int)) (F : Fr h₀ L s.heap m₀) (N : News h₀ L s.heap (Led c₀)) (hk : ∀ p ∈ ps c₀, m₀ p.1 = some p.2) (hp : P 0 c₀)
    (turn : ∀ i t c (u : Str → Option Value) I oI h tk, i < n → P i c → (∀ p ∈ Led c₀, p.1 < I) → (∀ p ∈ Led c, p.1 ≠ I) → Fr h₀ L h (fun y => if y = x then some (.int (a₀ + (i : Int)) t) else kstB u (ps c) y) → News h₀ L h ((I, oI) :: Led c) →
      wpAny (model prog w) A (execs body env) (ForPost h₀ L I oI Led ps (P (i + 1)) { s with heap := h, toks := tk } Q) E { s with heap := h, toks := tk })
    (done : ∀ c (u : Str → Option Value) h tk, P n c → Fr h₀ L h (kstB u (ps c)) → News h₀ L h (Led c) → Q .next { s with heap := h, toks := tk }) :
    wpAny (model prog w) A (pyIter (.ref r)) (fun it s₂ => LoopAtV prog w A h₀ env x body Q E it s₂) E s := by
  subst hLe
  refine wpAny_pyIter_range hr hsmall ?_
  refine for_core Led ps P c₀ rfl (LCg.range_walks hh a₀ n) (fun i h st => ⟨_, st⟩) ?_ (next_is_new F) ?_ (fun p hp => Nat.ne_of_lt (Heap.lt_size (N p hp).1)) (by show IsRangeIter _ _ _ _ _; rw [hn]; simpa using Heap.get?_push_size _ rfl)
    (F.push _) (fun p hp => ⟨Heap.get?_push_of_some _ (N p hp).1, (N p hp).2⟩) hk hp ?_ done
  · intro hm
    exact absurd F.ns.lt ((List.mem_singleton.mp hm) ▸ Nat.lt_irrefl _)
  · intro b hb
    exact .inl (List.mem_singleton.mp hb)
  · rintro i v c u oI h tk hi ⟨t, rfl⟩ hP ho F₁ N₁
    exact turn i t c u _ oI h tk hi hP (fun p hp => Heap.lt_size (N p hp).1) ho F₁ N₁

/-- where a while's turn goes on -/
def WhNext (h₀ : Heap) (L : Addr) (Led : σ → Led) (ps : σ → List (Str × Value)) (P : σ → Prop) (μ : σ → Nat) (n : Nat) (s₁ s₂ : Shared) : Prop :=
  ∃ (c : σ) (h' : Heap) (tk : Nat) (m' : Str → Option Value) (all : List (Addr × Obj)), s₂ = { s₁ with heap := h', toks := tk } ∧ Fr h₀ L h' m' ∧ News h₀ L h' all ∧ (∀ p ∈ Led c, p ∈ all) ∧ (∀ p ∈ ps c, m' p.1 = some p.2) ∧ P c ∧ μ c < n
theorem WhNext.intro {Led : σ → Led} {ps : σ → List (Str × Value)} {P : σ → Prop} {μ : σ → Nat} {n : Nat} {s₁ : Shared} (c : σ) {h' : Heap} {tk : Nat} {m' : Str → Option Value} {all : List (Addr × Obj)}
    (F : Fr h₀ L h' m') (N : News h₀ L h' all) (hs : ∀ p ∈ Led c, p ∈ all) (hk : ∀ p ∈ ps c, m' p.1 = some p.2) (hp : P c) (hm : μ c < n) :
    WhNext h₀ L Led ps P μ n s₁ { s₁ with heap := h', toks := tk } := ⟨c, h', tk, m', all, rfl, F, N, hs, hk, hp, hm⟩
def WhPost (h₀ : Heap) (L : Addr) (Led : σ → Led) (ps : σ → List (Str × Value)) (P : σ → Prop) (μ : σ → Nat) (n : Nat) (s₁ : Shared) (Q : Flow → Shared → Prop) (f : Flow) (s₂ : Shared) : Prop :=
  match f with
  | .ret v => Q (.ret v) s₂
  | .brk => Q .next s₂
  | _ => WhNext h₀ L Led ps P μ n s₁ s₂
def WhTest (b : Bool) (T F : Prop) : Prop := if b = true then T else F
theorem WhTest.of {b : Bool} {T F : Prop} (ht : b = true → T) (hf : b = false → F) : WhTest b T F := by
  cases b with
  | true => exact ht rfl
  | false => exact hf rfl
theorem while_st {test : Expr} {pos : Pos} {m₀ : Str → Option Value} (Led : σ → Led) (ps : σ → List (Str × Value)) (P : σ → Prop) (μ : σ → Nat) (c₀ : σ)
    (F : Fr h₀ L s.heap m₀) (N : News h₀ L s.heap (Led c₀)) (hk : ∀ p ∈ ps c₀, m₀ p.1 = some p.2) (hp : P c₀)
    (turn : ∀ (c : σ) (u : Str → Option Value) h tk, P c → Fr h₀ L h (kstB u (ps c)) → News h₀ L h (Led c) →
      wpAny (model prog w) A (isTrue test env (eval test env)) (fun b s₂ => WhTest b (wpAny (model prog w) A (execs body env) (WhPost h₀ L Led ps P μ (μ c) s Q) E s₂) (Q .next s₂)) E { s with heap := h, toks := tk })
    (hE : PassesOwn (model prog w) A env E := by passes_own) :
    wpAny (model prog w) A (exec (.While test body [] pos) env) Q E s := by
  refine While_inv2 (fun n m nx => ∃ c : σ, nx = Led c ∧ μ c = n ∧ (∀ p ∈ ps c, m p.1 = some p.2) ∧ P c) F N ⟨c₀, rfl, rfl, hk, hp⟩ ?_ hE
  rintro n m₁ nx h tk F₁ N₁ ⟨c, rfl, rfl, h1, hp'⟩
  refine wpAny_mono (turn c m₁ h tk hp' (by rw [kstB_same h1]; exact F₁) N₁) (fun b s₂ p => ?_) fun _ _ x => x
  unfold WhTest at p
  cases b with
  | false => simpa using p
  | true =>
    simp only [if_true] at p ⊢
    refine wpAny_mono p (fun f s₃ q => ?_) fun _ _ x => x
    have fin : WhNext h₀ L Led ps P μ (μ c) s s₃ → WhileStep2 h₀ L s (fun n m nx => ∃ c : σ, nx = Led c ∧ μ c = n ∧ (∀ p ∈ ps c, m p.1 = some p.2) ∧ P c) Q (μ c) .next s₃ := by
      rintro ⟨c', h', tk', m', all, rfl, F', N', hn, hk9, hp9, hm9⟩
      exact ⟨h', tk', m', Led c', μ c', rfl, F', fun p hp => N' p (hn p hp), hm9, c', rfl, rfl, hk9, hp9⟩
    cases f with
    | ret v => exact q
    | brk => exact q
    | next => exact fin q
    | cont => exact fin q
end

end
-- PlainOp
section
def wildAt (p : List Nat) (c : Nat) : Bool := match p[c]? with | some k => k == 37 || k == 42 | none => false
/-- a place may be opened behind those that stand -/
def opens (pl : List Nat) (c : Nat) : Bool := match pl.getLast? with | none => true | some d => decide (d < c)
def op1 (p : List Nat) : Nat → List Nat → Nat → List Nat
  | 0, pl, _ => pl
  | f + 1, pl, c => if opens pl c then op1 p f (pl ++ [c]) (if wildAt p c then c + 1 else c) else pl
def opF (p : List Nat) (pl : List Nat) (c : Nat) : List Nat := op1 p (p.length + 2) pl c
def opAll (p : List Nat) (heads : List Nat) : List Nat := heads.foldl (opF p) []
theorem wild_lt {p : List Nat} {c : Nat} (h : wildAt p c = true) : c < p.length := by
  unfold wildAt at h
  split at h
  · rename_i k e
    exact (List.getElem?_eq_some_iff.mp e).1
  · cases h
theorem opens_snoc (pl : List Nat) (c : Nat) : opens (pl ++ [c]) c = false := by simp [opens]
theorem op1_stop {p : List Nat} {f : Nat} {pl : List Nat} {c : Nat} (h : opens pl c = false) : op1 p f pl c = pl := by
  cases f with
  | zero => rfl
  | succ f => simp [op1, h]
theorem op1_fuel (p : List Nat) : ∀ (f : Nat) (pl : List Nat) (c : Nat), c ≤ p.length → p.length + 2 ≤ f + c → op1 p f pl c = op1 p (f + 1) pl c := by
  intro f
  induction f with
  | zero => intro pl c h1 h2; omega
  | succ f ih =>
    intro pl c h1 h2
    rw [op1, op1]
    split
    · cases hw : wildAt p c with
      | true =>
        have := wild_lt hw
        exact ih _ _ (by simp; omega) (by simp; omega)
      | false =>
        simp only [Bool.false_eq_true, if_false]
        rw [op1_stop (opens_snoc pl c), op1_stop (opens_snoc pl c)]
    · rfl
theorem op1_more {p : List Nat} {pl : List Nat} {c : Nat} (hc : c ≤ p.length) : ∀ k f, p.length + 2 ≤ f + c → op1 p f pl c = op1 p (f + k) pl c := by
  intro k
  induction k with
  | zero => intro f _; rfl
  | succ k ih => intro f hf; rw [ih f hf, ← Nat.add_assoc]; exact op1_fuel p (f + k) pl c hc (by omega)
theorem opF_stop {p : List Nat} {pl : List Nat} {c : Nat} (h : opens pl c = false) : opF p pl c = pl := op1_stop h
theorem opF_wild {p : List Nat} {pl : List Nat} {c : Nat} (h : opens pl c = true) (hw : wildAt p c = true) : opF p pl c = opF p (pl ++ [c]) (c + 1) := by
  have hlt := wild_lt hw
  unfold opF
  rw [op1]
  simp only [h, hw, if_true]
  have := op1_more (p := p) (pl := pl ++ [c]) (c := c + 1) (by omega) 1 (p.length + 1) (by omega)
  exact this
theorem opF_last {p : List Nat} {pl : List Nat} {c : Nat} (h : opens pl c = true) (hw : wildAt p c = false) : opF p pl c = pl ++ [c] := by
  unfold opF
  rw [op1]
  simp only [h, hw, if_true, Bool.false_eq_true, if_false]
  exact op1_stop (opens_snoc pl c)
theorem op1_le (p : List Nat) : ∀ (f : Nat) (pl : List Nat) (c : Nat), c ≤ p.length → (∀ k ∈ pl, k ≤ p.length) → ∀ k ∈ op1 p f pl c, k ≤ p.length := by
  intro f
  induction f with
  | zero => intro pl c _ h; exact h
  | succ f ih =>
    intro pl c hc h
    rw [op1]
    split
    · refine ih _ _ ?_ ?_
      · split
        · rename_i hw; exact wild_lt hw
        · exact hc
      · intro k hk
        rcases List.mem_append.mp hk with hk | hk
        · exact h k hk
        · rw [List.mem_singleton.mp hk]; exact hc
    · exact h
theorem opF_le {p : List Nat} {pl : List Nat} {c : Nat} (hc : c ≤ p.length) (h : ∀ k ∈ pl, k ≤ p.length) : ∀ k ∈ opF p pl c, k ≤ p.length := op1_le p _ pl c hc h
theorem opAll_le {p : List Nat} {heads : List Nat} (h : ∀ k ∈ heads, k ≤ p.length) : ∀ k ∈ opAll p heads, k ≤ p.length := by
  have key : ∀ (hs pl : List Nat), (∀ k ∈ hs, k ≤ p.length) → (∀ k ∈ pl, k ≤ p.length) → ∀ k ∈ hs.foldl (opF p) pl, k ≤ p.length := by
    intro hs
    induction hs with
    | nil => intro pl _ h2; exact h2
    | cons c r ih => intro pl h1 h2; exact ih _ (fun k hk => h1 k (.tail _ hk)) (opF_le (h1 c (.head _)) h2)
  exact key heads [] h (fun _ hk => nomatch hk)
/-- strictly rising -/
def Rising : List Nat → Prop := List.Pairwise (· < ·)
theorem rising_snoc {pl : List Nat} {c : Nat} (hr : Rising pl) (h : opens pl c = true) : Rising (pl ++ [c]) := by
  unfold Rising at *
  rw [List.pairwise_append]
  refine ⟨hr, List.pairwise_singleton _ _, ?_⟩
  intro a ha b hb
  rw [List.mem_singleton.mp hb]
  unfold opens at h
  rcases List.eq_nil_or_concat pl with e | ⟨q, d, e⟩
  · rw [e] at ha; cases ha
  · subst e
    simp at h
    rw [List.concat_eq_append, List.pairwise_append] at hr
    rw [List.concat_eq_append] at ha
    rcases List.mem_append.mp ha with ha | ha
    · have := hr.2.2 a ha d (by simp); omega
    · rw [List.mem_singleton.mp ha]; exact h
theorem op1_rising (p : List Nat) : ∀ (f : Nat) (pl : List Nat) (c : Nat), Rising pl → Rising (op1 p f pl c) := by
  intro f
  induction f with
  | zero => intro pl c h; exact h
  | succ f ih =>
    intro pl c h
    rw [op1]
    split
    · rename_i ho
      exact ih _ _ (rising_snoc h ho)
    · exact h
theorem opAll_rising (p heads : List Nat) : Rising (opAll p heads) := by
  have key : ∀ (hs pl : List Nat), Rising pl → Rising (hs.foldl (opF p) pl) := by
    intro hs
    induction hs with
    | nil => intro pl h; exact h
    | cons c r ih => intro pl h; exact ih _ (op1_rising p _ _ _ h)
  exact key heads [] List.Pairwise.nil
theorem rising_le {n : Nat} {l : List Nat} (hr : Rising l) (h : ∀ k ∈ l, k ≤ n) : l.length ≤ n + 1 := by
  have key : ∀ (l : List Nat) (m : Nat), Rising l → (∀ k ∈ l, m ≤ k ∧ k ≤ n) → l.length ≤ n + 1 - m := by
    intro l
    induction l with
    | nil => intro m _ _; exact Nat.zero_le _
    | cons c r ih =>
      intro m hr h
      have h1 := h c (.head _)
      have := ih (c + 1) hr.tail (fun k hk => ⟨List.rel_of_pairwise_cons hr hk, (h k (.tail _ hk)).2⟩)
      simp only [List.length_cons]
      omega
  have := key l 0 hr fun k hk => ⟨Nat.zero_le _, h k hk⟩
  omega
def meas (p pl : List Nat) (c : Nat) : Nat := if opens pl c = true then p.length + 2 - c else 0
def natInts (l : List Nat) : List Int := l.map fun (k : Nat) => (k : Int)
theorem natInts_len (l : List Nat) : (natInts l).length = l.length := by simp [natInts]
theorem opens_nil {pl : List Nat} {c : Nat} (h : ((natInts pl).length : Int) = 0) : opens pl c = true := by
  rw [natInts_len] at h
  have : pl = [] := List.eq_nil_of_length_eq_zero (by omega)
  subst this; rfl
theorem last_is {pl : List Nat} (h : ((natInts pl).length : Int) ≠ 0) : ∃ (q : List Nat) (d : Nat), pl = q ++ [d] ∧ (natInts pl).getD (-1 + ((natInts pl).length : Int)).toNat 0 = (d : Int) := by
  rcases List.eq_nil_or_concat pl with e | ⟨q, d, e⟩
  · subst e; exact absurd rfl h
  · rw [List.concat_eq_append] at e
    subst e
    refine ⟨q, d, rfl, ?_⟩
    have e2 : natInts (q ++ [d]) = natInts q ++ [(d : Int)] := by simp [natInts]
    rw [e2]
    exact getD_last _ _ _
theorem opens_lt {pl : List Nat} {c : Nat} (h : ((natInts pl).length : Int) ≠ 0) (hl : (natInts pl).getD (-1 + ((natInts pl).length : Int)).toNat 0 < (c : Int)) : opens pl c = true := by
  obtain ⟨q, d, e, e2⟩ := last_is h
  rw [e2] at hl
  rw [e]; simp [opens]; omega
theorem opens_ge {pl : List Nat} {c : Nat} (h : ((natInts pl).length : Int) ≠ 0) (hl : ¬ (natInts pl).getD (-1 + ((natInts pl).length : Int)).toNat 0 < (c : Int)) : opens pl c = false := by
  obtain ⟨q, d, e, e2⟩ := last_is h
  rw [e2] at hl
  rw [e]; simp [opens]; omega
theorem natInts_snoc {pl : List Nat} {ws : List Value} {c : Nat} {t : Tok} (h : IntsAre ws (natInts pl)) : IntsAre (ws ++ [.int (c : Int) t]) (natInts (pl ++ [c])) := by
  have e2 : natInts (pl ++ [c]) = natInts pl ++ [(c : Int)] := by simp [natInts]
  rw [e2]; exact ints_snoc h
theorem bound_snoc {pl : List Nat} {c n : Nat} (h : ∀ k ∈ pl, k ≤ n) (hc : c ≤ n) : ∀ k ∈ pl ++ [c], k ≤ n := by
  intro k hk
  rcases List.mem_append.mp hk with hk | hk
  · exact h k hk
  · rw [List.mem_singleton.mp hk]; exact hc
theorem item_nat {x : Str} {c : Nat} (h : (c : Int) < x.length) : Txt.item x (c : Int) = ⟨#[x.cps.getD c 0]⟩ := PyProof.Rows.item_at (by omega) h rfl
theorem cps_wild : (Str.ofString "%*").cps.toList = [37, 42] := by decide +kernel
theorem getD_some {x : Str} {c : Nat} (h : (c : Int) < x.length) : x.cps.toList[c]? = some (x.cps.getD c 0) := by
  have h' : c < x.cps.size := by unfold Str.length at h; omega
  rw [Array.getElem?_toList, Array.getD_eq_getD_getElem?, Array.getElem?_eq_getElem h']
  rfl
theorem wild_is {p : Str} {c : Nat} (h : (c : Int) < p.length) : wildAt p.cps.toList c = !(Builtin.Str.occurrences (Str.ofString "%*") (Txt.item p (c : Int)) 0 (Str.ofString "%*").length 1).isEmpty := by
  rw [item_nat h, StrLaws.found_one, cps_wild]
  unfold wildAt
  rw [getD_some h]
  generalize p.cps.getD c 0 = k
  simp only [List.mem_cons, List.not_mem_nil, or_false]
  by_cases h1 : k = 37 <;> by_cases h2 : k = 42 <;> simp [h1, h2]
theorem wild_out {p : Str} {c : Nat} (h : ¬ (c : Int) < p.length) : wildAt p.cps.toList c = false := by
  unfold wildAt
  rw [List.getElem?_eq_none (by simp only [Array.length_toList]; unfold Str.length at h; omega)]
theorem off_same {D I : Addr} {o o' : Obj} {news : Led} (h : ∀ p ∈ (D, o) :: news, p.1 < I) : ∀ p ∈ (D, o') :: news, p.1 ≠ I := by
  intro p hp
  rcases List.mem_cons.mp hp with rfl | hp
  · exact Nat.ne_of_lt (h (D, o) (.head _))
  · exact Nat.ne_of_lt (h p (.tail _ hp))
theorem meas_lt {p pl pl' : List Nat} {c : Nat} (ho : opens pl c = true) (hc : c ≤ p.length) : meas p pl' (c + 1) < meas p pl c := by
  unfold meas
  rw [if_pos ho]
  split <;> omega
theorem meas_lt0 {p pl : List Nat} {c : Nat} (ho : opens pl c = true) (hc : c ≤ p.length) : meas p (pl ++ [c]) c < meas p pl c := by
  unfold meas
  rw [if_pos ho, opens_snoc]
  simp only [Bool.false_eq_true, if_false]
  omega

end
-- F_opened
local macro_rules | `(tactic| k_all) => `(tactic| exact fun p hp => Nat.ne_of_lt ((by assumption : ∀ p ∈ _, p.1 < _) p hp))
local macro_rules | `(tactic| walk_at "ForPost") => `(tactic| (dsimp only [ForPost]))
local macro_rules | `(tactic| walk_at "WhPost") => `(tactic| (dsimp only [WhPost]))
section
set_option maxHeartbeats 8000000

def Hold (P : Prop) : Prop := P
theorem hold {P : Prop} (h : Hold P) : P := h
structure OpSt where
  pl : List Nat
  ws : List Value
  mm : Nat
structure OpSt2 where
  pl : List Nat
  ws : List Value
  mm : Nat
  c : Nat
  t : Tok
theorem nat_item {vs : List Value} {hs : List Nat} {i : Nat} {v : Value} (hi : IntsAre vs (natInts hs)) (h : vs.toArray[i]? = some v) : ∃ k t, hs[i]? = some k ∧ v = .int (k : Int) t := by
  obtain ⟨k, t, e, hk⟩ := IntsAre.at hi i v (by simpa using h)
  unfold natInts at hk
  rw [List.getElem?_map] at hk
  cases q : hs[i]? with
  | none => rw [q] at hk; cases hk
  | some k' => rw [q] at hk; cases hk; exact ⟨k', t, rfl, e⟩
section
local macro_rules | `(tactic| walk_at "exec While BoolOp cons nil") => `(tactic| (k_here; refine hold ?_))

theorem c_opened (w : World) (mean mg mb) (p : Str) (t : Tok) (l : Addr) (vs : List Value) (hs : List Nat) (nn : Nat) (hp : p.length ≤ 1000) (hi : IntsAre vs (natInts hs)) (hle : ∀ k ∈ hs, k ≤ p.length) :
    ConO w mean mg mb 193 1 20 (fun news => (l, listOf vs.toArray nn) ∈ news) [.str p t, .ref l] (fun o => ∃ ws mm, o = listOf ws.toArray mm ∧ IntsAre ws (natInts (opAll p.cps.toList hs))) := by
  try unfold ConS
  try unfold ConB
  try unfold ConI
  try unfold ConO
  unfold Con
  k_fill
  intro dp un gd cn cs a ccd cl outer A₀ base h₀ L m news s Q E B F X N T hk hd hu hl hret
  refine wpAny_call ?_
  k_dflt cell_enter
  k_steps
  rename_i D g1 l1 g2 F1 N1
  (rename IntsAre vs _ => hi)
  refine for_list (σ := OpSt) (fun c => (D, listOf c.ws.toArray c.mm) :: news) (fun _ => [(Str.ofString "pattern", .str p t), (Str.ofString "places", .ref D)])
    (fun i c => c.pl = (hs.take i).foldl (opF p.cps.toList) [] ∧ IntsAre c.ws (natInts c.pl) ∧ Rising c.pl ∧ ∀ k ∈ c.pl, k ≤ p.cps.toList.length) ⟨[], [], 0⟩ (by rfl) (by rfl) (fun _ _ _ => .tail _ hl) F1 N1 (by kst_all) ⟨rfl, .nil, .nil, fun _ h => nomatch h⟩ ?_ ?_
  · rintro i v ⟨pl, ws, mm⟩ u I oI h tk hv ⟨he, hw, hr, hb⟩ hlt hne F2 N2
    obtain ⟨k, t2, hk, rfl⟩ := nat_item hi hv
    dsimp only at he hw hr hb hne F2 N2
    have hk2 := hle k (List.mem_of_getElem? hk)
    clear hi
    have hID : @Ne Nat D I := hne _ (.head _)
    k_steps
    unfold Hold
    rename_i g3 F3 N3
    refine while_st (σ := OpSt2) (fun c => (I, oI) :: (D, listOf c.ws.toArray c.mm) :: news) (fun c => [(Str.ofString "pattern", .str p t), (Str.ofString "places", .ref D), (Str.ofString "place", .int (c.c : Int) c.t)])
      (fun c => opF p.cps.toList c.pl c.c = opF p.cps.toList pl k ∧ IntsAre c.ws (natInts c.pl) ∧ Rising c.pl ∧ (∀ k ∈ c.pl, k ≤ p.cps.toList.length) ∧ c.c ≤ p.length) (fun c => meas p.cps.toList c.pl c.c) ⟨pl, ws, mm, k, t2⟩ F3 N3 (by kst_all) ⟨rfl, hw, hr, hb, hk2⟩ ?_
    rintro ⟨pl2, ws2, mm2, c2, t3⟩ u2 h2 tk2 ⟨he2, hw2, hr2, hb2, hc2⟩ F4 N4
    dsimp only at he2 hw2 hr2 hb2 hc2 F4 N4
    have hlen := rising_le hr2 hb2
    have hlp : p.cps.toList.length = p.length := by simp [Str.length]
    have hni := natInts_len pl2
    k_steps
    · rename_i ha
      refine WhTest.of (fun _ => ?_) (fun h => nomatch h)
      have ho := opens_nil (c := c2) ha
      k_steps
      · rename_i hw3
        have hw4 : wildAt p.cps.toList c2 = false := by rw [wild_is (by assumption), hw3]; rfl
        (rename News _ _ _ _ => N9); simp only [List.push_toArray] at N9
        exact WhNext.intro ⟨pl2 ++ [c2], ws2 ++ [.int c2 t3], mm2 + 1, c2, t3⟩ (by assumption) N9 (fun _ h => h) (by kst_all)
          ⟨by rw [← he2, opF_last ho hw4]; exact opF_stop (opens_snoc _ _), natInts_snoc hw2, rising_snoc hr2 ho, bound_snoc hb2 (by omega), hc2⟩ (meas_lt0 ho (by omega))
      · have hw4 : wildAt p.cps.toList c2 = true := by rw [wild_is (by assumption)]; simp_all
        (rename News _ _ _ _ => N9); simp only [List.push_toArray] at N9
        exact WhNext.intro ⟨pl2 ++ [c2], ws2 ++ [.int c2 t3], mm2 + 1, c2 + 1, _⟩ (by assumption) N9 (fun _ h => h) (by kst_all)
          ⟨by rw [← he2]; exact (opF_wild ho hw4).symm, natInts_snoc hw2, rising_snoc hr2 ho, bound_snoc hb2 (by omega), by have := wild_lt hw4; dsimp only; omega⟩ (meas_lt ho (by omega))
      · have hw4 : wildAt p.cps.toList c2 = false := wild_out (by assumption)
        (rename News _ _ _ _ => N9); simp only [List.push_toArray] at N9
        exact WhNext.intro ⟨pl2 ++ [c2], ws2 ++ [.int c2 t3], mm2 + 1, c2, t3⟩ (by assumption) N9 (fun _ h => h) (by kst_all)
          ⟨by rw [← he2, opF_last ho hw4]; exact opF_stop (opens_snoc _ _), natInts_snoc hw2, rising_snoc hr2 ho, bound_snoc hb2 (by omega), hc2⟩ (meas_lt0 ho (by omega))
    · rename_i ha _ hb3
      refine WhTest.of (fun _ => ?_) (fun h => nomatch h)
      have ho := opens_lt ha hb3
      k_steps
      · rename_i hw3
        have hw4 : wildAt p.cps.toList c2 = false := by rw [wild_is (by assumption), hw3]; rfl
        (rename News _ _ _ _ => N9); simp only [List.push_toArray] at N9
        exact WhNext.intro ⟨pl2 ++ [c2], ws2 ++ [.int c2 t3], mm2 + 1, c2, t3⟩ (by assumption) N9 (fun _ h => h) (by kst_all)
          ⟨by rw [← he2, opF_last ho hw4]; exact opF_stop (opens_snoc _ _), natInts_snoc hw2, rising_snoc hr2 ho, bound_snoc hb2 (by omega), hc2⟩ (meas_lt0 ho (by omega))
      · have hw4 : wildAt p.cps.toList c2 = true := by rw [wild_is (by assumption)]; simp_all
        (rename News _ _ _ _ => N9); simp only [List.push_toArray] at N9
        exact WhNext.intro ⟨pl2 ++ [c2], ws2 ++ [.int c2 t3], mm2 + 1, c2 + 1, _⟩ (by assumption) N9 (fun _ h => h) (by kst_all)
          ⟨by rw [← he2]; exact (opF_wild ho hw4).symm, natInts_snoc hw2, rising_snoc hr2 ho, bound_snoc hb2 (by omega), by have := wild_lt hw4; dsimp only; omega⟩ (meas_lt ho (by omega))
      · have hw4 : wildAt p.cps.toList c2 = false := wild_out (by assumption)
        (rename News _ _ _ _ => N9); simp only [List.push_toArray] at N9
        exact WhNext.intro ⟨pl2 ++ [c2], ws2 ++ [.int c2 t3], mm2 + 1, c2, t3⟩ (by assumption) N9 (fun _ h => h) (by kst_all)
          ⟨by rw [← he2, opF_last ho hw4]; exact opF_stop (opens_snoc _ _), natInts_snoc hw2, rising_snoc hr2 ho, bound_snoc hb2 (by omega), hc2⟩ (meas_lt0 ho (by omega))
    · rename_i ha _ hb3
      refine WhTest.of (fun h => nomatch h) (fun _ => ?_)
      have ho := opens_ge ha hb3
      k_steps
      refine ForNext.intro ⟨pl2, ws2, mm2⟩ F4 N4 (fun _ h => h) (off_same hlt) (by kst_all) ⟨?_, hw2, hr2, hb2⟩
      rw [opF_stop ho] at he2
      dsimp only
      rw [List.take_add_one, hk, List.foldl_append, ← he, he2]
      rfl
  · rintro ⟨pl, ws, mm⟩ u h tk ⟨he, hw, hr, hb⟩ F2 N2
    k_steps
    rename_i kF kN _ _
    refine hret _ [(_, _)] _ _ kF kN (lt_one l1) ⟨_, _, rfl, rfl, _, _, rfl, ?_⟩
    rw [List.size_toArray, hi.length, natInts_len, List.take_length] at he
    unfold opAll
    dsimp only at he hw
    rw [← he]; exact hw
end

end
-- PlainLs
section
def met1 (a b : Nat) (any : Bool) : Bool := if any = true then up a == b else a == b
/-- one place's head for the sign b -/
def stepHead (p : List Nat) (b : Nat) (any : Bool) (heads : List Nat) (place : Nat) : List Nat :=
  match p[place]? with
  | none => heads
  | some a => if a = 42 ∨ (a = 37 ∧ b ≠ 47) then heads ++ [place] else if a ≠ 37 ∧ met1 a b any = true then heads ++ [place + 1] else heads
def headsOf (p : List Nat) (b : Nat) (any : Bool) (places : List Nat) : List Nat := places.foldl (stepHead p b any) []
def placesAt (p n : List Nat) (most : Nat) : Nat → List Nat
  | 0 => opAll p [0]
  | i + 1 => opAll p (headsOf p (n.getD i 0) (decide (i < most)) (placesAt p n most i))
def listedN (p n : List Nat) (most : Nat) : Bool := (placesAt p n most n.length).getLast? == some p.length
theorem stepHead_le {p : List Nat} {b : Nat} {any : Bool} {heads : List Nat} {place : Nat} (h : ∀ k ∈ heads, k ≤ p.length) : ∀ k ∈ stepHead p b any heads place, k ≤ p.length := by
  unfold stepHead
  split
  · exact h
  · rename_i a e
    have hlt := (List.getElem?_eq_some_iff.mp e).1
    split
    · exact bound_snoc h (by omega)
    · split
      · exact bound_snoc h (by omega)
      · exact h
theorem foldHead_le {p : List Nat} {b : Nat} {any : Bool} : ∀ (l heads : List Nat), (∀ k ∈ heads, k ≤ p.length) → ∀ k ∈ l.foldl (stepHead p b any) heads, k ≤ p.length
  | [], _, h => h
  | c :: r, heads, h => foldHead_le r _ (stepHead_le h)
theorem stepHead_len {p : List Nat} {b : Nat} {any : Bool} {heads : List Nat} {place : Nat} : (stepHead p b any heads place).length ≤ heads.length + 1 := by
  unfold stepHead
  split
  · omega
  · split
    · simp
    · split
      · simp
      · omega
theorem foldHead_len {p : List Nat} {b : Nat} {any : Bool} : ∀ (l heads : List Nat), (l.foldl (stepHead p b any) heads).length ≤ heads.length + l.length
  | [], _ => by simp
  | c :: r, heads => by
    have h1 := foldHead_len r (stepHead p b any heads c) (p := p) (b := b) (any := any)
    have h2 := stepHead_len (p := p) (b := b) (any := any) (heads := heads) (place := c)
    simp only [List.foldl_cons, List.length_cons]
    omega
theorem headsOf_le (p : List Nat) (b : Nat) (any : Bool) (places : List Nat) : ∀ k ∈ headsOf p b any places, k ≤ p.length := foldHead_le places [] fun _ h => nomatch h
theorem placesAt_le (p n : List Nat) (most : Nat) : ∀ i, ∀ k ∈ placesAt p n most i, k ≤ p.length
  | 0 => opAll_le (by intro k hk; rw [List.mem_singleton.mp hk]; exact Nat.zero_le _)
  | _ + 1 => opAll_le (headsOf_le _ _ _ _)
theorem placesAt_rising (p n : List Nat) (most : Nat) : ∀ i, Rising (placesAt p n most i)
  | 0 => opAll_rising _ _
  | _ + 1 => opAll_rising _ _
theorem beq_sign {a : Nat} {x : Str} {d : Nat} (e : x.cps.toList = [d]) : ((⟨#[a]⟩ : Str) == x) = decide (a = d) := by
  obtain ⟨⟨l⟩⟩ := x
  simp only at e
  subst e
  by_cases h : a = d
  · subst h; simp
  · simp [h]
theorem bne_sign {a : Nat} {x : Str} {d : Nat} (e : x.cps.toList = [d]) : ((⟨#[a]⟩ : Str) != x) = !decide (a = d) := by
  unfold bne; rw [beq_sign e]
theorem beq_signs {a b : Nat} : ((⟨#[a]⟩ : Str) == ⟨#[b]⟩) = (a == b) := by
  rw [beq_sign (d := b) rfl]
  by_cases h : a = b <;> simp [h]
theorem upS_sign (a : Nat) : upS ⟨#[a]⟩ = ⟨#[up a]⟩ := by unfold upS; simp
theorem metS_sign {a b : Nat} {any : Bool} : metS ⟨#[a]⟩ ⟨#[b]⟩ any = met1 a b any := by
  unfold metS met1
  rw [upS_sign, beq_signs, beq_signs]
theorem cps_star : (Str.ofString "*").cps.toList = [42] := by decide +kernel
theorem cps_pct : (Str.ofString "%").cps.toList = [37] := by decide +kernel
theorem cps_slash : (Str.ofString "/").cps.toList = [47] := by decide +kernel
section
variable {p n : Str} {k i : Nat} {hs : List Nat} {any : Bool}
theorem step_some (hk : (k : Int) < p.length) (hi : (i : Int) < n.length) (any : Bool) (hs : List Nat) : ∃ a b, Txt.item p (k : Int) = ⟨#[a]⟩ ∧ Txt.item n (0 + (i : Int)) = ⟨#[b]⟩ ∧
    stepHead p.cps.toList (n.cps.toList.getD i 0) any hs k = if a = 42 ∨ (a = 37 ∧ b ≠ 47) then hs ++ [k] else if a ≠ 37 ∧ met1 a b any = true then hs ++ [k + 1] else hs := by
  refine ⟨p.cps.getD k 0, n.cps.getD i 0, item_nat hk, by rw [Int.zero_add]; exact item_nat hi, ?_⟩
  unfold stepHead
  rw [getD_some hk, List.getD_eq_getElem?_getD, getD_some hi]
  rfl
theorem stepA (hk : (k : Int) < p.length) (hi : (i : Int) < n.length) (h : (Txt.item p (k : Int) == Str.ofString "*") = true) : stepHead p.cps.toList (n.cps.toList.getD i 0) any hs k = hs ++ [k] := by
  obtain ⟨a, b, ea, eb, e⟩ := step_some hk hi any hs
  rw [ea, beq_sign cps_star] at h
  rw [e, if_pos (.inl (of_decide_eq_true h))]
theorem stepB (hk : (k : Int) < p.length) (hi : (i : Int) < n.length) (h : (Txt.item p (k : Int) == Str.ofString "%") = true) (h2 : (Txt.item n (0 + (i : Int)) != Str.ofString "/") = true) : stepHead p.cps.toList (n.cps.toList.getD i 0) any hs k = hs ++ [k] := by
  obtain ⟨a, b, ea, eb, e⟩ := step_some hk hi any hs
  rw [ea, beq_sign cps_pct] at h
  rw [eb, bne_sign cps_slash] at h2
  rw [e, if_pos (.inr ⟨of_decide_eq_true h, by simpa using h2⟩)]
theorem stepC (hk : (k : Int) < p.length) (hi : (i : Int) < n.length) (h : (Txt.item p (k : Int) == Str.ofString "*") = false) (h2 : (Txt.item p (k : Int) != Str.ofString "%") = true) (h3 : metS (Txt.item p (k : Int)) (Txt.item n (0 + (i : Int))) any = true) : stepHead p.cps.toList (n.cps.toList.getD i 0) any hs k = hs ++ [k + 1] := by
  obtain ⟨a, b, ea, eb, e⟩ := step_some hk hi any hs
  rw [ea, beq_sign cps_star] at h
  rw [ea, bne_sign cps_pct] at h2
  rw [ea, eb, metS_sign] at h3
  have h1 : ¬ a = 42 := of_decide_eq_false h
  have h4 : ¬ a = 37 := by simpa using h2
  rw [e, if_neg (by simp [h1, h4]), if_pos ⟨h4, h3⟩]
theorem stepD (hk : (k : Int) < p.length) (hi : (i : Int) < n.length) (h : (Txt.item p (k : Int) == Str.ofString "*") = false) (h2 : (Txt.item p (k : Int) != Str.ofString "%") = true) (h3 : metS (Txt.item p (k : Int)) (Txt.item n (0 + (i : Int))) any = false) : stepHead p.cps.toList (n.cps.toList.getD i 0) any hs k = hs := by
  obtain ⟨a, b, ea, eb, e⟩ := step_some hk hi any hs
  rw [ea, beq_sign cps_star] at h
  rw [ea, bne_sign cps_pct] at h2
  rw [ea, eb, metS_sign] at h3
  have h1 : ¬ a = 42 := of_decide_eq_false h
  have h4 : ¬ a = 37 := by simpa using h2
  rw [e, if_neg (by simp [h1, h4]), if_neg (by simp [h3])]
theorem stepE (hk : (k : Int) < p.length) (hi : (i : Int) < n.length) (h : (Txt.item p (k : Int) == Str.ofString "*") = false) (h2 : (Txt.item p (k : Int) != Str.ofString "%") = false) (h3 : (Txt.item n (0 + (i : Int)) != Str.ofString "/") = false) : stepHead p.cps.toList (n.cps.toList.getD i 0) any hs k = hs := by
  obtain ⟨a, b, ea, eb, e⟩ := step_some hk hi any hs
  rw [ea, beq_sign cps_star] at h
  rw [ea, bne_sign cps_pct] at h2
  rw [eb, bne_sign cps_slash] at h3
  have h1 : ¬ a = 42 := of_decide_eq_false h
  have h4 : a = 37 := by simpa using h2
  have h5 : b = 47 := by simpa using h3
  rw [e, if_neg (by simp [h4, h5]), if_neg (by simp [h4])]
theorem stepF (hk : (k : Int) = p.length) : stepHead p.cps.toList (n.cps.toList.getD i 0) any hs k = hs := by
  unfold stepHead
  rw [List.getElem?_eq_none (by simp only [Array.length_toList]; unfold Str.length at hk; omega)]
theorem stepG (h : (Txt.item p (k : Int) == Str.ofString "%") = false) (h2 : (Txt.item p (k : Int) != Str.ofString "%") = false) : False := by
  unfold bne at h2; rw [h] at h2; cases h2
end
theorem any_is (n : Str) (i : Nat) : decide (0 + (i : Int) < anyLen n) = decide (i < (anyLen n).toNat) := by
  have : anyLen n = 5 ∨ anyLen n = 0 := by unfold anyLen; split <;> simp
  rcases this with h | h <;> rw [h] <;> simp <;> omega
theorem fold_next {α β : Type} {f : β → α → β} {z : β} {l : List α} {j : Nat} {k : α} {hs hs' : β} (hk : l[j]? = some k) (he : hs = (l.take j).foldl f z) (h : f hs k = hs') : hs' = (l.take (j + 1)).foldl f z := by
  rw [List.take_add_one, hk, List.foldl_append, ← he, ← h]; rfl
theorem listed_nil {p n : List Nat} {most : Nat} (h : ¬ (0 : Int) < ((natInts (placesAt p n most n.length)).length : Int)) : listedN p n most = false := by
  rw [natInts_len] at h
  have : placesAt p n most n.length = [] := List.eq_nil_of_length_eq_zero (by omega)
  unfold listedN; rw [this]; rfl
theorem listed_last {p n : List Nat} {most : Nat} {x : Int} (h : (0 : Int) < ((natInts (placesAt p n most n.length)).length : Int)) (hx : x = (p.length : Int)) :
    listedN p n most = ((natInts (placesAt p n most n.length)).getD (-1 + ((natInts (placesAt p n most n.length)).length : Int)).toNat 0 == x) := by
  obtain ⟨q, d, e, e2⟩ := last_is (pl := placesAt p n most n.length) (by omega)
  rw [e2, hx]
  unfold listedN
  rw [e]
  by_cases h : d = p.length
  · subst h; simp
  · have h' : ¬ (d : Int) = (p.length : Int) := by omega
    have e3 : ((d : Int) == (p.length : Int)) = false := beq_eq_false_iff_ne.mpr h'
    have e4 : (d == p.length) = false := beq_eq_false_iff_ne.mpr h
    rw [e3]
    simp [e4]

end
-- F_listed
local macro_rules | `(tactic| walk_at "exec For Name Name cons nil") => `(tactic| (k_here; (rename Fr _ _ _ _ => lF'); (with_unfolding_all refine' For_invVF lF' ?k1 ?k2 ?_; (case k1 => exact rfl); (case k2 => exact rfl); k_whole)))
local macro_rules | `(tactic| walk_at "exec For Name Call cons nil") => `(tactic| (k_here; (rename Fr _ _ _ _ => lF'); (with_unfolding_all refine' For_invVF lF' ?k1 ?k2 ?_; (case k1 => exact rfl); (case k2 => exact rfl); k_whole)))
local macro_rules | `(tactic| walk_at "pyIter ref") => `(tactic| ((with_reducible show wpAny _ _ (pyIter (Value.ref _)) (fun it s₂ => LoopAtV _ _ _ _ _ _ _ _ _ it s₂) _ _); refine hold ?_))
section
set_option maxHeartbeats 8000000

theorem range_to (n : Nat) : Builtin.Range.rangeSize 0 (n : Int) 1 = (n : Int) := by
  have h := rangeSize_nat 0 (n : Int)
  rw [h]; omega
theorem drop2 {a b : Addr × Obj} {news : Led} : Nat → ∀ p ∈ a :: news, p ∈ a :: b :: news := fun _ p hp => by
  rcases List.mem_cons.mp hp with rfl | hp
  · exact .head _
  · exact .tail _ (.tail _ hp)
structure LsSt where
  D : Addr
  ws : List Value
  mm : Nat
structure HdSt where
  hs : List Nat
  hw : List Value
  hm : Nat
section
local macro_rules | `(tactic| walk_at "call ref") => `(tactic| (k_here; (with_reducible show wpAny _ _ (call (Value.ref 186) [Value.str _ _, Value.str _ _, Value.bool _]) _ _ _); k_dflt (refine' useB (c_is_met _ _ _ _ _ _ _ _ _ ?hx) ?k1 ?k2 ?k3 ?k4 ?k5 ?kK ?kd ?ku ?kp ?_); walk_at "mine ctx"; (case kp => trivial); (case hx => first | assumption | omega); intro t9 h9 tk9 F9 N9; (try dsimp only); (try k_fold)))
local macro_rules | `(tactic| walk_at "call ref") => `(tactic| (k_here; (with_reducible show wpAny _ _ (call (Value.ref 200) [Value.str _ _]) _ _ _); k_dflt (refine' useI (c_any_len _ _ _ _ _ _ ?hx) ?k1 ?k2 ?k3 ?k4 ?k5 ?kK ?kd ?ku ?kp ?_); walk_at "mine ctx"; (case kp => trivial); (case hx => first | assumption | omega); intro t9 h9 tk9 F9 N9; (try dsimp only); (try k_fold)))
local macro_rules | `(tactic| walk_at "call ref") => `(tactic| (k_here; (with_reducible show wpAny _ _ (call (Value.ref 193) [Value.str _ _, Value.ref _]) _ _ _); k_dflt (refine' useO (c_opened _ _ _ _ _ _ _ _ [0] _ ?hx ?hy ?hz) ?k1 ?k2 ?k3 ?k4 ?k5 ?kK ?kd ?ku ?kp ?_); walk_at "mine ctx"; (case kp => k_mem); (case hx => first | assumption | omega); (case hy => with_unfolding_all exact IntsAre.cons _ _ .nil); (case hz => (intro k hk; rw [List.mem_singleton.mp hk]; exact Nat.zero_le _)); intro D9 o9 h9 tk9 O9 F9 N9 l9; (obtain ⟨ws9, mm9, e9, W9⟩ := O9; subst e9); (try k_lt l9); (try dsimp only); (try k_fold)))
local macro_rules | `(tactic| walk_at "call ref") => `(tactic| (k_here; (with_reducible show wpAny _ _ (call (Value.ref 193) [Value.str _ _, Value.ref _]) _ _ _); k_dflt (refine' useO (c_opened _ _ _ _ _ _ _ _ _ _ ?hx ?hy ?hz) ?k1 ?k2 ?k3 ?k4 ?k5 ?kK ?kd ?ku ?kp ?_); walk_at "mine ctx"; (case kp => k_mem); (case hx => first | assumption | omega); (case hy => assumption); (case hz => assumption); intro D9 o9 h9 tk9 O9 F9 N9 l9; (obtain ⟨ws9, mm9, e9, W9⟩ := O9; subst e9); (try k_lt l9); (try dsimp only); (try k_fold)))

theorem c_is_listed (w : World) (mean mg mb) (p n : Str) (t t' : Tok) (hp : p.length ≤ 200) (hn : n.length ≤ 200) :
    ConB w mean mg mb 207 3 80 (fun _ => True) [.str p t, .str n t'] (listedN p.cps.toList n.cps.toList (anyLen n).toNat) := by
  try unfold ConS
  try unfold ConB
  try unfold ConI
  try unfold ConO
  unfold Con
  k_fill
  intro dp un gd cn cs a ccd cl outer A₀ base h₀ L m news s Q E B F X N T hk hd hu hp2 hret
  refine wpAny_call ?_
  k_dflt cell_enter
  k_steps
  unfold Hold
  rename_i tm x0 x1 x2 x3 l0 x4 l1 D g1 tk1 ws mm W l9 g2 F0 N0 g3 tk3 t1 u1 v1 R1 F1 N1 K1
  have hpl : p.cps.toList.length = p.length := by simp [Str.length]
  have hnl : n.cps.toList.length = n.length := by simp [Str.length]
  refine for_range (σ := LsSt) (n := n.length) (fun c => (c.D, listOf c.ws.toArray c.mm) :: news) (fun c => [(Str.ofString "pattern", .str p t), (Str.ofString "name", .str n t'), (Str.ofString "most", .int (anyLen n) tm), (Str.ofString "places", .ref c.D)])
    (fun i c => IntsAre c.ws (natInts (placesAt p.cps.toList n.cps.toList (anyLen n).toNat i)) ∧ ∀ q ∈ news, q.1 < c.D) ⟨D, ws, mm⟩ (by rfl) (by rfl) R1 (small_one (by omega) (by omega) (by omega) (by omega)) (range_to n.length) F1 (cb_drop N1 (drop2 1)) (by kst_all) ⟨W, ktn_ltOf l9.2⟩ ?_ ?_
  · rintro i ti ⟨D2, ws2, mm2⟩ u I oI h tk hi ⟨W2, l2⟩ hlt hne F2 N2
    dsimp only at W2 l2 hne F2 N2
    have hb2 := placesAt_le p.cps.toList n.cps.toList (anyLen n).toNat i
    have hr2 := placesAt_rising p.cps.toList n.cps.toList (anyLen n).toNat i
    have hlen2 := rising_le hr2 hb2
    generalize hpls : placesAt p.cps.toList n.cps.toList (anyLen n).toNat i = pls at W2 hb2 hr2 hlen2
    k_steps
    unfold Hold
    rename_i H g4 l4 g5 F4 N4
    have hHI : @LT.lt Nat _ I H := l4.1
    have hHD : @LT.lt Nat _ D2 H := l4.2.1
    have hHn := ktn_ltOf l4.2.2
    refine for_list (σ := HdSt) (fun c => (H, listOf c.hw.toArray c.hm) :: (I, oI) :: (D2, listOf ws2.toArray mm2) :: news)
      (fun _ => [(Str.ofString "pattern", .str p t), (Str.ofString "name", .str n t'), (Str.ofString "most", .int (anyLen n) tm), (Str.ofString "at", .int (0 + (i : Int)) ti), (Str.ofString "heads", .ref H)])
      (fun j c => c.hs = (pls.take j).foldl (stepHead p.cps.toList (n.cps.toList.getD i 0) (decide (i < (anyLen n).toNat))) [] ∧ IntsAre c.hw (natInts c.hs)) ⟨[], [], 0⟩ (by rfl) (by rfl) (fun _ _ _ => .tail _ (.tail _ (.head _))) F4 N4 (by kst_all) ⟨rfl, .nil⟩ ?_ ?_
    · rintro j v ⟨hs, hw, hm⟩ u3 I3 oI3 h3 tk5 hv ⟨he, hw3⟩ hlt3 hne3 F5 N5
      obtain ⟨k, t5, hk, rfl⟩ := nat_item W2 hv
      dsimp only at he hw3 hne3 F5 N5
      have hk2 := hb2 k (List.mem_of_getElem? hk)
      have h3H : @Ne Nat H I3 := hne3 _ (.head _)
      have hl5 : hs.length ≤ pls.length := by
        rw [he]
        have := foldHead_len (p := p.cps.toList) (b := n.cps.toList.getD i 0) (any := decide (i < (anyLen n).toNat)) (pls.take j) []
        simp only [List.length_take, List.length_nil] at this
        omega
      have hl6 := natInts_len hs
      clear W2 W
      have hi5 : (i : Int) < n.length := by omega
      have hk6 : ¬ (k : Int) = p.length → (k : Int) < p.length := fun h => by omega
      have ha7 := any_is n i
      k_steps
      · exact ForNext.intro ⟨hs, hw, hm⟩ (by assumption) (by assumption) (fun _ h => h) hne3 (by kst_all) ⟨fold_next hk he (stepF (by assumption)), hw3⟩
      all_goals first
        | (exfalso; exact stepG (by assumption) (by assumption))
        | ((rename News _ _ _ _ => N9); (try simp only [List.push_toArray] at N9); first
          | exact ForNext.intro ⟨hs ++ [k], hw ++ [.int (k : Int) t5], hm + 1⟩ (by assumption) N9 (fun _ h => h) (off_same hlt3) (by kst_all) ⟨fold_next hk he (stepA (hk6 (by assumption)) hi5 (by assumption)), natInts_snoc hw3⟩
          | exact ForNext.intro ⟨hs ++ [k], hw ++ [.int (k : Int) t5], hm + 1⟩ (by assumption) N9 (fun _ h => h) (off_same hlt3) (by kst_all) ⟨fold_next hk he (stepB (hk6 (by assumption)) hi5 (by assumption) (by assumption)), natInts_snoc hw3⟩
          | exact ForNext.intro ⟨hs ++ [k + 1], hw ++ [.int ((k + 1 : Nat) : Int) _], hm + 1⟩ (by assumption) N9 (fun _ h => h) (off_same hlt3) (by kst_all) ⟨fold_next hk he (stepC (hk6 (by assumption)) hi5 (by assumption) (by assumption) (by rw [← ha7]; assumption)), natInts_snoc hw3⟩
          | exact ForNext.intro ⟨hs, hw, hm⟩ (by assumption) N9 (fun _ h => h) hne3 (by kst_all) ⟨fold_next hk he (stepD (hk6 (by assumption)) hi5 (by assumption) (by assumption) (by rw [← ha7]; assumption)), hw3⟩
          | exact ForNext.intro ⟨hs, hw, hm⟩ (by assumption) N9 (fun _ h => h) hne3 (by kst_all) ⟨fold_next hk he (stepE (hk6 (by assumption)) hi5 (by assumption) (by assumption) (by assumption)), hw3⟩)
    · rintro ⟨hs, hw, hm⟩ u3 h3 tk5 ⟨he, hw3⟩ F5 N5
      dsimp only at he hw3 F5 N5
      have he2 : hs = headsOf p.cps.toList (n.cps.toList.getD i 0) (decide (i < (anyLen n).toNat)) pls := by
        rw [he, List.size_toArray, W2.length, natInts_len, List.take_length]; rfl
      have hz : ∀ k ∈ hs, k ≤ p.length := by rw [he2, ← hpl]; exact headsOf_le _ _ _ _
      clear W2 W
      k_steps
      rename_i D9 g9 tk9 ws9 mm9 W9 l9 g10 F9 N9
      have l10 := ktn_ltOf l9.2.2.2
      refine ForNext.intro ⟨D9, ws9, mm9⟩ F9 N9 (fun p hp => by
        rcases List.mem_cons.mp hp with rfl | hp
        · exact .tail _ (.tail _ (.head _))
        · rcases List.mem_cons.mp hp with rfl | hp
          · exact .head _
          · exact .tail _ (.tail _ (.tail _ (.tail _ hp)))) (fun p hp => by
        rcases List.mem_cons.mp hp with rfl | hp
        · exact Nat.ne_of_gt l9.2.1
        · exact Nat.ne_of_lt (hlt p (.tail _ hp))) (by kst_all) ⟨?_, l10⟩
      dsimp only
      rw [he2] at W9
      show IntsAre ws9 (natInts (opAll p.cps.toList (headsOf p.cps.toList (n.cps.toList.getD i 0) (decide (i < (anyLen n).toNat)) (placesAt p.cps.toList n.cps.toList (anyLen n).toNat i))))
      rw [hpls]
      exact W9
  · rintro ⟨D2, ws2, mm2⟩ u h tk ⟨W2, l2⟩ F2 N2
    dsimp only at W2 l2 F2 N2
    have hlen2 := rising_le (placesAt_rising p.cps.toList n.cps.toList (anyLen n).toNat n.length) (placesAt_le p.cps.toList n.cps.toList (anyLen n).toNat n.length)
    have hl6 := natInts_len (placesAt p.cps.toList n.cps.toList (anyLen n).toNat n.length)
    have hll := fun a b => @listed_last p.cps.toList n.cps.toList (anyLen n).toNat (p.length : Int) a b
    have hln := @listed_nil p.cps.toList n.cps.toList (anyLen n).toNat
    rw [hnl] at hll hln
    rw [hpl] at hll
    k_steps
    · exact hret _ [] _ _ (by k_asm) (cb_drop (by assumption) (by intro _ hp; repeat (first | exact hp | refine List.Mem.tail _ ?_))) lt_nil ⟨rfl, by rw [hll (by assumption) rfl]⟩
    · exact hret _ [] _ _ (by k_asm) (cb_drop (by assumption) (by intro _ hp; repeat (first | exact hp | refine List.Mem.tail _ ?_))) lt_nil ⟨rfl, by rw [hln (by assumption)]; simp only [decide_eq_false (by assumption)]⟩
end

end
-- PlainMt
section
/-- the law's own turning of a letter -/
def lawUp (a i most : Nat) : Nat := if i < most then (if a = 105 then 73 else if a = 110 then 78 else if a = 98 then 66 else if a = 111 then 79 else if a = 120 then 88 else a) else a
def starGo (ok f : Nat → Bool) : Nat → Nat → Bool
  | 0, i => f i
  | r + 1, i => f i || (ok i && starGo ok f r (i + 1))
def meetsN (n : List Nat) (most : Nat) : List Nat → Nat → Bool
  | [], i => i == n.length
  | a :: p, i => if a = 37 ∨ a = 42 then starGo (fun j => a == 42 || n.getD j 0 != 47) (meetsN n most p) (n.length - i) i
    else decide (i < n.length) && (lawUp a i most == n.getD i 0 && meetsN n most p (i + 1))
theorem meets_star {n : List Nat} {most a : Nat} {p : List Nat} {i : Nat} (ha : a = 37 ∨ a = 42) :
    meetsN n most (a :: p) i = (meetsN n most p i || (decide (i < n.length) && ((a == 42 || n.getD i 0 != 47) && meetsN n most (a :: p) (i + 1)))) := by
  rw [meetsN, if_pos ha]
  by_cases h : i < n.length
  · have e : n.length - i = (n.length - (i + 1)) + 1 := by omega
    rw [e, starGo, decide_eq_true h, Bool.true_and]
    rw [meetsN, if_pos ha]
  · have e : n.length - i = 0 := by omega
    rw [e, starGo, decide_eq_false h, Bool.false_and, Bool.or_false]
theorem meets_lit {n : List Nat} {most a : Nat} {p : List Nat} {i : Nat} (ha : ¬ (a = 37 ∨ a = 42)) :
    meetsN n most (a :: p) i = (decide (i < n.length) && (lawUp a i most == n.getD i 0 && meetsN n most p (i + 1))) := by rw [meetsN, if_neg ha]
open Builtin.Str in
theorem occ_no {x : Str} {y : Str} {a : Nat} (e : y = ⟨#[a]⟩) (h : (occurrences x y 0 x.length 1).isEmpty = true) : a ∉ x.cps.toList := by
  subst e
  have := StrLaws.found_one x a
  rw [h] at this
  exact of_decide_eq_false this.symm
open Builtin.Str in
theorem occ_yes {x : Str} {y : Str} {a : Nat} (e : y = ⟨#[a]⟩) (h : (occurrences x y 0 x.length 1).isEmpty = false) : a ∈ x.cps.toList := by
  subst e
  have := StrLaws.found_one x a
  rw [h] at this
  exact of_decide_eq_true this.symm
theorem cps_inbox : (Str.ofString "inbox").cps.toList = [105, 110, 98, 111, 120] := by decide +kernel
theorem cps_of {x : Str} {l : List Nat} (h : x.cps.toList = l) : x = ⟨l.toArray⟩ := by
  obtain ⟨⟨z⟩⟩ := x
  simp only at h
  subst h; rfl
theorem empty_cps : (Str.ofString "").cps.toList = [] := by decide +kernel
theorem eq_empty {p : Str} (h : (p == Str.ofString "") = true) : p.cps.toList = [] := by
  rw [eq_of_beq h]; exact empty_cps
theorem ne_empty {p : Str} (h : (p == Str.ofString "") = false) : ∃ a q, p.cps.toList = a :: q := by
  cases e : p.cps.toList with
  | nil => exfalso; rw [cps_of e] at h; revert h; decide +kernel
  | cons a q => exact ⟨a, q, rfl⟩
theorem item_0 {p : Str} {a : Nat} {q : List Nat} (h : p.cps.toList = a :: q) : Txt.item p 0 = ⟨#[a]⟩ := by
  have hl : p.length = q.length + 1 := by unfold Str.length; rw [← Array.length_toList, h]; rfl
  have := item_nat (x := p) (c := 0) (by rw [hl]; exact Int.ofNat_lt.mpr (Nat.succ_pos _))
  rw [show ((0 : Nat) : Int) = 0 from rfl] at this
  rw [this, cps_of h]
  rfl
theorem slice_1 {p : Str} {a : Nat} {q : List Nat} (h : p.cps.toList = a :: q) : Txt.slice p (some 1) none = ⟨q.toArray⟩ := by
  have hl : p.length = q.length + 1 := by unfold Str.length; rw [← Array.length_toList, h]; rfl
  rw [slice_from_eq (by decide) (by rw [hl]; omega) rfl, h]
  congr
  rw [show (1 : Int).toNat = 1 from rfl, List.drop_succ_cons, List.drop_zero]
  exact List.take_of_length_le (by rw [hl]; omega)
theorem lawUp_no {a i most : Nat} (h : a ∉ [105, 110, 98, 111, 120]) : lawUp a i most = a := by
  simp only [List.mem_cons, List.not_mem_nil, or_false, not_or] at h
  obtain ⟨h1, h2, h3, h4, h5⟩ := h
  unfold lawUp
  simp [h1, h2, h3, h4, h5]
theorem lawUp_out {a i most : Nat} (h : ¬ (i : Int) < (most : Int)) : lawUp a i most = a := by
  unfold lawUp; rw [if_neg (by omega)]
theorem inbox_at {a : Nat} (h : a ∈ [105, 110, 98, 111, 120]) : 0 ≤ Txt.find (Str.ofString "inbox") ⟨#[a]⟩ ∧ Txt.find (Str.ofString "inbox") ⟨#[a]⟩ < 5 := by
  simp only [List.mem_cons, List.not_mem_nil, or_false] at h
  rcases h with rfl | rfl | rfl | rfl | rfl <;> decide +kernel
theorem inbox_is {a i most : Nat} (h : a ∈ [105, 110, 98, 111, 120]) (hi : (i : Int) < (most : Int)) : Txt.item (Str.ofString "INBOX") (Txt.find (Str.ofString "inbox") ⟨#[a]⟩) = ⟨#[lawUp a i most]⟩ := by
  unfold lawUp
  rw [if_pos (by omega)]
  simp only [List.mem_cons, List.not_mem_nil, or_false] at h
  rcases h with rfl | rfl | rfl | rfl | rfl <;> decide +kernel
theorem nat_lt_cast {i m : Nat} (h : (i : Int) < (m : Int)) : decide (i < m) = true := decide_eq_true (by omega)
theorem nat_nlt_cast {i m : Nat} (h : ¬ (i : Int) < (m : Int)) : decide (i < m) = false := decide_eq_false (by omega)
section
variable {n : Str} {most a i : Nat} {q : List Nat}
theorem lit_hit (hw : ¬ (a = 37 ∨ a = 42)) (hi : (i : Int) < n.length) (h : ((⟨#[lawUp a i most]⟩ : Str) == Txt.item n (i : Int)) = true) : meetsN n.cps.toList most (a :: q) i = meetsN n.cps.toList most q (i + 1) := by
  rw [meets_lit hw]
  rw [item_nat hi, beq_signs] at h
  rw [List.getD_eq_getElem?_getD, getD_some hi, Option.getD_some, h, Bool.true_and]
  have hl : n.cps.toList.length = n.length := by simp [Str.length]
  rw [hl, nat_lt_cast hi, Bool.true_and]
theorem lit_miss (hw : ¬ (a = 37 ∨ a = 42)) (hi : (i : Int) < n.length) (h : ((⟨#[lawUp a i most]⟩ : Str) == Txt.item n (i : Int)) = false) : meetsN n.cps.toList most (a :: q) i = false := by
  rw [meets_lit hw]
  rw [item_nat hi, beq_signs] at h
  rw [List.getD_eq_getElem?_getD, getD_some hi, Option.getD_some, h, Bool.false_and, Bool.and_false]
theorem lit_end (hw : ¬ (a = 37 ∨ a = 42)) (hi : ¬ (i : Int) < n.length) : meetsN n.cps.toList most (a :: q) i = false := by
  rw [meets_lit hw]
  have hl : n.cps.toList.length = n.length := by simp [Str.length]
  rw [hl, nat_nlt_cast hi, Bool.false_and]
theorem star_yes (hw : a = 37 ∨ a = 42) (h : meetsN n.cps.toList most q i = true) : meetsN n.cps.toList most (a :: q) i = true := by
  rw [meets_star hw, h, Bool.true_or]
theorem star_end (hw : a = 37 ∨ a = 42) (h : meetsN n.cps.toList most q i = false) (hi : ¬ (i : Int) < n.length) : meetsN n.cps.toList most (a :: q) i = false := by
  have hl : n.cps.toList.length = n.length := by simp [Str.length]
  rw [meets_star hw, h, hl, nat_nlt_cast hi]; rfl
theorem star_on (hw : a = 37 ∨ a = 42) (h : meetsN n.cps.toList most q i = false) (hi : (i : Int) < n.length) (h3 : a = 42 ∨ (Txt.item n (i : Int) != Str.ofString "/") = true) : meetsN n.cps.toList most (a :: q) i = meetsN n.cps.toList most (a :: q) (i + 1) := by
  have hl : n.cps.toList.length = n.length := by simp [Str.length]
  rw [meets_star hw, h, hl, nat_lt_cast hi, Bool.false_or, Bool.true_and]
  rw [item_nat hi, bne_sign cps_slash] at h3
  rw [List.getD_eq_getElem?_getD, getD_some hi, Option.getD_some]
  rcases h3 with rfl | h3
  · simp
  · have : (n.cps.getD i 0 != 47) = true := by simpa using h3
    rw [this, Bool.or_true, Bool.true_and]
theorem star_off (hw : a = 37 ∨ a = 42) (h : meetsN n.cps.toList most q i = false) (hi : (i : Int) < n.length) (h2 : ((⟨#[a]⟩ : Str) == Str.ofString "*") = false) (h3 : (Txt.item n (i : Int) != Str.ofString "/") = false) : meetsN n.cps.toList most (a :: q) i = false := by
  have hl : n.cps.toList.length = n.length := by simp [Str.length]
  rw [meets_star hw, h, hl, nat_lt_cast hi, Bool.false_or, Bool.true_and]
  rw [item_nat hi, bne_sign cps_slash] at h3
  rw [beq_sign cps_star] at h2
  rw [List.getD_eq_getElem?_getD, getD_some hi, Option.getD_some]
  have h4 : (a == 42) = false := by simpa using h2
  have h5 : (n.cps.getD i 0 != 47) = false := by simpa using h3
  rw [h4, h5]; rfl
end
theorem nat_beq (i m : Nat) : ((i : Int) == (m : Int)) = (i == m) := by
  by_cases h : i = m
  · subst h; simp
  · have h2 : ¬ (i : Int) = (m : Int) := by omega
    rw [beq_eq_false_iff_ne.mpr h2, beq_eq_false_iff_ne.mpr h]

end
-- F_meets
section
set_option maxHeartbeats 8000000

theorem c_meets (w : World) (mean mg mb) (n : Str) (t' : Tok) (most : Nat) (t4 : Tok) (hn : n.length ≤ 200) : ∀ (k : Nat) (p : Str) (i : Nat) (t t3 : Tok), p.length + (n.length - i) = k → p.length ≤ 200 → i ≤ n.length →
    ConB w mean mg mb 262 (k + 1) (8 * k + 20) (fun _ => True) [.str p t, .str n t', .int (i : Int) t3, .int (most : Int) t4] (meetsN n.cps.toList most p.cps.toList i) := by
  intro k
  induction k using Nat.strongRecOn with
  | ind k IH =>
  intro p i t t3 hk hp hi
  have hnl : n.cps.toList.length = n.length := by simp [Str.length]
  try unfold ConS
  try unfold ConB
  try unfold ConI
  try unfold ConO
  unfold Con
  k_fill
  intro dp un gd cn cs a ccd cl outer A₀ base h₀ L m news s Q E B F X N T hck hd hu hp2 hret
  refine wpAny_call ?_
  k_dflt cell_enter
  k_steps
  all_goals try (exfalso; simp_all; done)
  · exact hret _ [] _ _ (by k_asm) (cb_drop (by assumption) (by intro _ hp; repeat (first | exact hp | refine List.Mem.tail _ ?_))) lt_nil ⟨rfl, by rw [eq_empty (p := p) (by assumption)]; show _ = Value.bool (i == n.cps.toList.length); rw [hnl, nat_beq]⟩
  · obtain ⟨a1, q, hpq⟩ := ne_empty (by assumption)
    have eA := item_0 hpq
    have eS : (Txt.slice p (some 1) none).cps.toList = q := by rw [slice_1 hpq]
    have hl1 : p.length = q.length + 1 := by unfold Str.length; rw [← Array.length_toList, hpq]; rfl
    have hl2 : (Txt.slice p (some 1) none).length = q.length := by unfold Str.length; rw [← Array.length_toList, eS]
    have hw : ¬ (a1 = 37 ∨ a1 = 42) := by
      have := occ_no (x := Str.ofString "%*") eA (by assumption)
      rw [cps_wild] at this
      simpa using this
    have e5 : (⟨#[lawUp a1 i most]⟩ : Str) = Txt.item p 0 := by
      rw [eA]
      first
      | rw [lawUp_out (by assumption)]
      | (rw [lawUp_no]; have := occ_no (x := Str.ofString "inbox") eA (by assumption); rw [cps_inbox] at this; exact this)
    have hlt : (i : Int) < n.length := by assumption
    have hq : (Txt.slice p (some 1) none).length + (n.length - (i + 1)) < k := by omega
    k_dflt (refine' useB (IH _ hq (Txt.slice p (some 1) none) (i + 1) _ _ rfl (by omega) (by omega)) ?k1 ?k2 ?k3 ?k4 ?k5 ?kK ?kd ?ku trivial ?_)
    (case k1 => k_asm); (case k2 => k_asm); (case k3 => k_asm); (case k4 => k_asm); (case k5 => k_asm); (case kK => first | exact rfl | assumption); (case kd => ktr_room); (case ku => ktr_units)
    intro t9 h9 tk9 F9 N9
    (try dsimp only)
    k_steps
    exact hret _ [] _ _ (by k_asm) (cb_drop (by assumption) (by intro _ hp; repeat (first | exact hp | refine List.Mem.tail _ ?_))) lt_nil ⟨rfl, by rw [hpq, lit_hit hw hlt (by rw [e5]; assumption), eS]⟩

  · obtain ⟨a1, q, hpq⟩ := ne_empty (by assumption)
    have eA := item_0 hpq
    have eS : (Txt.slice p (some 1) none).cps.toList = q := by rw [slice_1 hpq]
    have hl1 : p.length = q.length + 1 := by unfold Str.length; rw [← Array.length_toList, hpq]; rfl
    have hl2 : (Txt.slice p (some 1) none).length = q.length := by unfold Str.length; rw [← Array.length_toList, eS]
    have hw : ¬ (a1 = 37 ∨ a1 = 42) := by
      have := occ_no (x := Str.ofString "%*") eA (by assumption)
      rw [cps_wild] at this
      simpa using this
    have e5 : (⟨#[lawUp a1 i most]⟩ : Str) = Txt.item p 0 := by
      rw [eA]
      first
      | rw [lawUp_out (by assumption)]
      | (rw [lawUp_no]; have := occ_no (x := Str.ofString "inbox") eA (by assumption); rw [cps_inbox] at this; exact this)
    exact hret _ [] _ _ (by k_asm) (cb_drop (by assumption) (by intro _ hp; repeat (first | exact hp | refine List.Mem.tail _ ?_))) lt_nil ⟨rfl, by rw [hpq, lit_miss hw (by assumption) (by rw [e5]; assumption)]; exact congrArg Value.bool (by assumption)⟩

  · obtain ⟨a1, q, hpq⟩ := ne_empty (by assumption)
    have eA := item_0 hpq
    have eS : (Txt.slice p (some 1) none).cps.toList = q := by rw [slice_1 hpq]
    have hl1 : p.length = q.length + 1 := by unfold Str.length; rw [← Array.length_toList, hpq]; rfl
    have hl2 : (Txt.slice p (some 1) none).length = q.length := by unfold Str.length; rw [← Array.length_toList, eS]
    have hw : ¬ (a1 = 37 ∨ a1 = 42) := by
      have := occ_no (x := Str.ofString "%*") eA (by assumption)
      rw [cps_wild] at this
      simpa using this
    exact hret _ [] _ _ (by k_asm) (cb_drop (by assumption) (by intro _ hp; repeat (first | exact hp | refine List.Mem.tail _ ?_))) lt_nil ⟨rfl, by rw [hpq, lit_end hw (by assumption)]; rw [decide_eq_false (by assumption)]⟩

  · obtain ⟨a1, q, hpq⟩ := ne_empty (by assumption)
    have eA := item_0 hpq
    have eS : (Txt.slice p (some 1) none).cps.toList = q := by rw [slice_1 hpq]
    have hl1 : p.length = q.length + 1 := by unfold Str.length; rw [← Array.length_toList, hpq]; rfl
    have hl2 : (Txt.slice p (some 1) none).length = q.length := by unfold Str.length; rw [← Array.length_toList, eS]
    have hw : ¬ (a1 = 37 ∨ a1 = 42) := by
      have := occ_no (x := Str.ofString "%*") eA (by assumption)
      rw [cps_wild] at this
      simpa using this

    have hin : a1 ∈ [105, 110, 98, 111, 120] := by
      have := occ_yes (x := Str.ofString "inbox") eA (by assumption)
      rw [cps_inbox] at this; exact this
    have e5 : (⟨#[lawUp a1 i most]⟩ : Str) = Txt.item (Str.ofString "INBOX") (Txt.find (Str.ofString "inbox") (Txt.item p 0)) := by
      rw [eA, inbox_is hin (by assumption)]

    have hfa := inbox_at hin
    rw [← eA] at hfa
    k_steps
    · have hlt : (i : Int) < n.length := by assumption
      have hq : (Txt.slice p (some 1) none).length + (n.length - (i + 1)) < k := by omega
      k_dflt (refine' useB (IH _ hq (Txt.slice p (some 1) none) (i + 1) _ _ rfl (by omega) (by omega)) ?k1 ?k2 ?k3 ?k4 ?k5 ?kK ?kd ?ku trivial ?_)
      (case k1 => k_asm); (case k2 => k_asm); (case k3 => k_asm); (case k4 => k_asm); (case k5 => k_asm); (case kK => first | exact rfl | assumption); (case kd => ktr_room); (case ku => ktr_units)
      intro t9 h9 tk9 F9 N9
      (try dsimp only)
      k_steps
      exact hret _ [] _ _ (by k_asm) (cb_drop (by assumption) (by intro _ hp; repeat (first | exact hp | refine List.Mem.tail _ ?_))) lt_nil ⟨rfl, by rw [hpq, lit_hit hw hlt (by rw [e5]; assumption), eS]⟩
    · exact hret _ [] _ _ (by k_asm) (cb_drop (by assumption) (by intro _ hp; repeat (first | exact hp | refine List.Mem.tail _ ?_))) lt_nil ⟨rfl, by rw [hpq, lit_miss hw (by assumption) (by rw [e5]; assumption)]; exact congrArg Value.bool (by assumption)⟩
    · exact hret _ [] _ _ (by k_asm) (cb_drop (by assumption) (by intro _ hp; repeat (first | exact hp | refine List.Mem.tail _ ?_))) lt_nil ⟨rfl, by rw [hpq, lit_end hw (by assumption)]; rw [decide_eq_false (by assumption)]⟩
  · obtain ⟨a1, q, hpq⟩ := ne_empty (by assumption)
    have eA := item_0 hpq
    have eS : (Txt.slice p (some 1) none).cps.toList = q := by rw [slice_1 hpq]
    have hl1 : p.length = q.length + 1 := by unfold Str.length; rw [← Array.length_toList, hpq]; rfl
    have hl2 : (Txt.slice p (some 1) none).length = q.length := by unfold Str.length; rw [← Array.length_toList, eS]
    have hw : ¬ (a1 = 37 ∨ a1 = 42) := by
      have := occ_no (x := Str.ofString "%*") eA (by assumption)
      rw [cps_wild] at this
      simpa using this
    have e5 : (⟨#[lawUp a1 i most]⟩ : Str) = Txt.item p 0 := by
      rw [eA]
      first
      | rw [lawUp_out (by assumption)]
      | (rw [lawUp_no]; have := occ_no (x := Str.ofString "inbox") eA (by assumption); rw [cps_inbox] at this; exact this)
    have hlt : (i : Int) < n.length := by assumption
    have hq : (Txt.slice p (some 1) none).length + (n.length - (i + 1)) < k := by omega
    k_dflt (refine' useB (IH _ hq (Txt.slice p (some 1) none) (i + 1) _ _ rfl (by omega) (by omega)) ?k1 ?k2 ?k3 ?k4 ?k5 ?kK ?kd ?ku trivial ?_)
    (case k1 => k_asm); (case k2 => k_asm); (case k3 => k_asm); (case k4 => k_asm); (case k5 => k_asm); (case kK => first | exact rfl | assumption); (case kd => ktr_room); (case ku => ktr_units)
    intro t9 h9 tk9 F9 N9
    (try dsimp only)
    k_steps
    exact hret _ [] _ _ (by k_asm) (cb_drop (by assumption) (by intro _ hp; repeat (first | exact hp | refine List.Mem.tail _ ?_))) lt_nil ⟨rfl, by rw [hpq, lit_hit hw hlt (by rw [e5]; assumption), eS]⟩

  · obtain ⟨a1, q, hpq⟩ := ne_empty (by assumption)
    have eA := item_0 hpq
    have eS : (Txt.slice p (some 1) none).cps.toList = q := by rw [slice_1 hpq]
    have hl1 : p.length = q.length + 1 := by unfold Str.length; rw [← Array.length_toList, hpq]; rfl
    have hl2 : (Txt.slice p (some 1) none).length = q.length := by unfold Str.length; rw [← Array.length_toList, eS]
    have hw : ¬ (a1 = 37 ∨ a1 = 42) := by
      have := occ_no (x := Str.ofString "%*") eA (by assumption)
      rw [cps_wild] at this
      simpa using this
    have e5 : (⟨#[lawUp a1 i most]⟩ : Str) = Txt.item p 0 := by
      rw [eA]
      first
      | rw [lawUp_out (by assumption)]
      | (rw [lawUp_no]; have := occ_no (x := Str.ofString "inbox") eA (by assumption); rw [cps_inbox] at this; exact this)
    exact hret _ [] _ _ (by k_asm) (cb_drop (by assumption) (by intro _ hp; repeat (first | exact hp | refine List.Mem.tail _ ?_))) lt_nil ⟨rfl, by rw [hpq, lit_miss hw (by assumption) (by rw [e5]; assumption)]; exact congrArg Value.bool (by assumption)⟩

  · obtain ⟨a1, q, hpq⟩ := ne_empty (by assumption)
    have eA := item_0 hpq
    have eS : (Txt.slice p (some 1) none).cps.toList = q := by rw [slice_1 hpq]
    have hl1 : p.length = q.length + 1 := by unfold Str.length; rw [← Array.length_toList, hpq]; rfl
    have hl2 : (Txt.slice p (some 1) none).length = q.length := by unfold Str.length; rw [← Array.length_toList, eS]
    have hw : ¬ (a1 = 37 ∨ a1 = 42) := by
      have := occ_no (x := Str.ofString "%*") eA (by assumption)
      rw [cps_wild] at this
      simpa using this
    exact hret _ [] _ _ (by k_asm) (cb_drop (by assumption) (by intro _ hp; repeat (first | exact hp | refine List.Mem.tail _ ?_))) lt_nil ⟨rfl, by rw [hpq, lit_end hw (by assumption)]; rw [decide_eq_false (by assumption)]⟩

  · obtain ⟨a1, q, hpq⟩ := ne_empty (by assumption)
    have eA := item_0 hpq
    have eS : (Txt.slice p (some 1) none).cps.toList = q := by rw [slice_1 hpq]
    have hl1 : p.length = q.length + 1 := by unfold Str.length; rw [← Array.length_toList, hpq]; rfl
    have hl2 : (Txt.slice p (some 1) none).length = q.length := by unfold Str.length; rw [← Array.length_toList, eS]
    have hw : a1 = 37 ∨ a1 = 42 := by
      have := occ_yes (x := Str.ofString "%*") eA (by assumption)
      rw [cps_wild] at this
      simpa using this
    have hq : (Txt.slice p (some 1) none).length + (n.length - i) < k := by omega
    k_dflt (refine' useB (IH _ hq (Txt.slice p (some 1) none) i _ _ rfl (by omega) hi) ?k1 ?k2 ?k3 ?k4 ?k5 ?kK ?kd ?ku trivial ?_)
    (case k1 => k_asm); (case k2 => k_asm); (case k3 => k_asm); (case k4 => k_asm); (case k5 => k_asm); (case kK => first | exact rfl | assumption); (case kd => ktr_room); (case ku => ktr_units)
    intro t9 h9 tk9 F9 N9
    (try dsimp only)
    rw [eS]
    k_steps
    · exact hret _ [] _ _ (by k_asm) (cb_drop (by assumption) (by intro _ hp; repeat (first | exact hp | refine List.Mem.tail _ ?_))) lt_nil ⟨rfl, by rw [hpq, star_yes hw (by assumption)]⟩
    · have hlt : (i : Int) < n.length := by assumption
      have hq2 : p.length + (n.length - (i + 1)) < k := by omega
      k_dflt (refine' useB (IH _ hq2 p (i + 1) _ _ rfl hp (by omega)) ?k1 ?k2 ?k3 ?k4 ?k5 ?kK ?kd ?ku trivial ?_)
      (case k1 => k_asm); (case k2 => k_asm); (case k3 => k_asm); (case k4 => k_asm); (case k5 => k_asm); (case kK => first | exact rfl | assumption); (case kd => ktr_room); (case ku => ktr_units)
      intro t10 h10 tk10 F10 N10
      (try dsimp only)
      k_steps
      exact hret _ [] _ _ (by k_asm) (cb_drop (by assumption) (by intro _ hp; repeat (first | exact hp | refine List.Mem.tail _ ?_))) lt_nil ⟨rfl, by rw [hpq, star_on hw (by assumption) hlt (.inl (by have h9 : (Txt.item p 0 == Str.ofString "*") = true := (by assumption); rw [eA, beq_sign cps_star] at h9; exact of_decide_eq_true h9))]⟩
    · have hlt : (i : Int) < n.length := by assumption
      have hq2 : p.length + (n.length - (i + 1)) < k := by omega
      k_dflt (refine' useB (IH _ hq2 p (i + 1) _ _ rfl hp (by omega)) ?k1 ?k2 ?k3 ?k4 ?k5 ?kK ?kd ?ku trivial ?_)
      (case k1 => k_asm); (case k2 => k_asm); (case k3 => k_asm); (case k4 => k_asm); (case k5 => k_asm); (case kK => first | exact rfl | assumption); (case kd => ktr_room); (case ku => ktr_units)
      intro t10 h10 tk10 F10 N10
      (try dsimp only)
      k_steps
      exact hret _ [] _ _ (by k_asm) (cb_drop (by assumption) (by intro _ hp; repeat (first | exact hp | refine List.Mem.tail _ ?_))) lt_nil ⟨rfl, by rw [hpq, star_on hw (by assumption) hlt (.inr (by assumption))]⟩
    · exact hret _ [] _ _ (by k_asm) (cb_drop (by assumption) (by intro _ hp; repeat (first | exact hp | refine List.Mem.tail _ ?_))) lt_nil ⟨rfl, by rw [hpq, star_off hw (by assumption) (by assumption) (by rw [← eA]; assumption) (by assumption)]; exact congrArg Value.bool (by assumption)⟩
    · exact hret _ [] _ _ (by k_asm) (cb_drop (by assumption) (by intro _ hp; repeat (first | exact hp | refine List.Mem.tail _ ?_))) lt_nil ⟨rfl, by rw [hpq, star_end hw (by assumption) (by assumption), decide_eq_false (by assumption)]⟩

end
-- F_parents
local macro_rules | `(tactic| walk_at "exec While Compare cons nil") => `(tactic| (k_here; refine hold ?_))
section
set_option maxHeartbeats 8000000

theorem slash_is : Str.ofString "/" = ⟨#[47]⟩ := by decide +kernel
/-- the names above a name: the text before each delimiter -/
def parF (x : Str) : Nat → Int → List Str
  | 0, _ => []
  | f + 1, i => if 0 ≤ i then Txt.slice x none (some i) :: parF x f (Txt.find3 x (Str.ofString "/") (i + 1)) else []
def parentsS (x : Str) : List Str := parF x (x.length + 1) (Txt.find x (Str.ofString "/"))
theorem find3_in (x : Str) (i : Int) (h0 : 0 ≤ i) (h1 : i ≤ x.length) : Txt.find3 x (Str.ofString "/") i = -1 ∨ (i ≤ Txt.find3 x (Str.ofString "/") i ∧ Txt.find3 x (Str.ofString "/") i < x.length) := by
  rw [slash_is]
  have hf : (PySem.fromIndex x.length i : Int) = i := by unfold PySem.fromIndex; split <;> omega
  rcases StrLaws.find3_spec x 47 i with ⟨h, _⟩ | ⟨k, h, h2, h3, _⟩
  · exact .inl h
  · right; rw [h]; omega
theorem find_find3 (x : Str) : Txt.find x (Str.ofString "/") = Txt.find3 x (Str.ofString "/") 0 := by
  have : PySem.fromIndex x.length 0 = 0 := by unfold PySem.fromIndex; split <;> omega
  unfold Txt.find Txt.find3; rw [this]; cases Builtin.Str.occurrences x (Str.ofString "/") 0 x.length 1 <;> rfl
def inText (x : Str) (i : Int) : Prop := i = -1 ∨ (0 ≤ i ∧ i < x.length)
theorem find_in (x : Str) : inText x (Txt.find x (Str.ofString "/")) := by
  rw [find_find3]
  rcases find3_in x 0 (by omega) (by omega) with h | h
  · exact .inl h
  · exact .inr h
theorem next_in {x : Str} {i : Int} (h0 : 0 ≤ i) (h : inText x i) : inText x (Txt.find3 x (Str.ofString "/") (i + 1)) ∧ (Txt.find3 x (Str.ofString "/") (i + 1) = -1 ∨ i < Txt.find3 x (Str.ofString "/") (i + 1)) := by
  have hl : i < x.length := by rcases h with h | h <;> omega
  rcases find3_in x (i + 1) (by omega) (by omega) with h | h
  · exact ⟨.inl h, .inl h⟩
  · exact ⟨.inr (by omega), .inr (by omega)⟩
structure PaSt where
  done : List Str
  ws : List Value
  mm : Nat
  i : Int
  t : Tok
section

theorem c_parents (w : World) (mean mg mb) (x : Str) (t : Tok) (hx : x.length ≤ 200) : ConO w mean mg mb 179 1 20 (fun _ => True) [.str x t] (fun o => ∃ ws mm, o = listOf ws.toArray mm ∧ StrsAre ws (parentsS x)) := by
  try unfold ConS
  try unfold ConB
  try unfold ConI
  try unfold ConO
  unfold Con
  k_fill
  intro dp un gd cn cs a ccd cl outer A₀ base h₀ L m news s Q E B F X N T hk hd hu hp hret
  refine wpAny_call ?_
  k_dflt cell_enter
  k_steps
  unfold Hold
  rename_i l' _ l1 _ _ _ F1 N1
  refine while_st (σ := PaSt) (fun c => (l', listOf c.ws.toArray c.mm) :: news) (fun c => [(Str.ofString "name", .str x t), (Str.ofString "some", .ref l'), (Str.ofString "at", .int c.i c.t)])
      (fun c => c.done ++ parF x (x.length + 1 - c.done.length) c.i = parentsS x ∧ StrsAre c.ws c.done ∧ inText x c.i ∧ (0 ≤ c.i → (c.done.length : Int) ≤ c.i) ∧ c.done.length ≤ x.length) (fun c => if 0 ≤ c.i then (x.length - c.i).toNat else 0) ⟨[], [], 0, Txt.find x (Str.ofString "/"), _⟩ F1 N1 (by kst_all) ⟨rfl, .nil, find_in x, fun h => h, Nat.zero_le _⟩ ?_
  rintro ⟨done, ws, mm, i, ti⟩ u2 h2 tk2 ⟨he, hw, hin, hdi, hdl⟩ F4 N4
  dsimp only at he hw hin hdi hdl F4 N4
  have hwl := hw.length
  k_steps
  refine WhTest.of (fun hi => ?_) (fun hi => ?_)
  · have hi := of_decide_eq_true hi
    obtain ⟨hin2, hnx⟩ := next_in hi hin
    have hix : i < x.length := by rcases hin with h | h <;> omega
    have hdi := hdi hi
    k_steps
    (rename News _ _ _ _ => N9); (try simp only [List.push_toArray] at N9)
    refine WhNext.intro ⟨done ++ [Txt.slice x none (some i)], ws ++ [.str (Txt.slice x none (some i)) _], mm + 1, Txt.find3 x (Str.ofString "/") (i + 1), _⟩ (by assumption) N9 (fun _ h => h) (by kst_all) ⟨?_, strs_snoc hw, hin2, ?_, ?_⟩ ?_
    · rw [← he]
      have e1 : x.length + 1 - done.length = (x.length + 1 - (done ++ [Txt.slice x none (some i)]).length) + 1 := by simp only [List.length_append, List.length_singleton]; omega
      rw [e1]
      conv => rhs; rw [parF, if_pos hi]
      simp only [List.append_assoc, List.singleton_append]
    · intro h; simp only [List.length_append, List.length_singleton] at h ⊢; omega
    · simp only [List.length_append, List.length_singleton]; omega
    · dsimp only
      rw [if_pos hi]
      split <;> omega
  · have hi := of_decide_eq_false hi
    k_steps
    rename_i kF kN _ _
    refine hret _ [(_, _)] _ _ kF kN (lt_one l1) ⟨_, _, rfl, rfl, _, _, rfl, ?_⟩
    rw [← he]
    have e1 : x.length + 1 - done.length = (x.length - done.length) + 1 := by omega
    rw [e1, parF, if_neg hi, List.append_nil]
    exact hw
end

end
-- Srt
section
open PySem PySem.W PyProof.Rows PySem.Spec PySem.Calls
section
variable {prog : Program} {w : World} {A : Around} {E : Value → Shared → Prop} {s : Shared} {h₀ : Heap} {L : Addr} {m : Str → Option Value} {news : List (Addr × Obj)}
theorem keys_strs {kvs : List (Str × Value)} : ∀ {vs : List Value}, vs.length = kvs.length → (∀ (j : Nat) (v : Value), vs[j]? = some v → ∃ k x, kvs[j]? = some (k, x) ∧ (PySem.strKind prog w).is k v = true) → StrsAre vs (kvs.map (·.1)) := by
  induction kvs with
  | nil => intro vs hl _; rw [List.eq_nil_of_length_eq_zero hl]; exact .nil
  | cons p r ih =>
    intro vs hl hv
    cases vs with
    | nil => cases hl
    | cons v vs =>
      obtain ⟨k, x, e, hk⟩ := hv 0 v rfl
      simp only [List.getElem?_cons_zero, Option.some.injEq] at e
      subst e
      obtain ⟨t, rfl⟩ : ∃ t, v = .str k t := by
        have h2 : Value.isStrOf k v = true := hk
        cases v <;> simp [Value.isStrOf] at h2
        subst h2; exact ⟨_, rfl⟩
      exact .cons k t (ih (by simpa using hl) fun j u hu => by simpa using hv (j + 1) u (by simpa using hu))
/-- sorted over a made dict of texts -/
theorem sorted_dict {d : Addr} {od : Obj} {kvs : List (Str × Value)} {Q : Value → Shared → Prop} (lo : (d == sysModules) = false) (hh : A.handled = none) (F : Fr h₀ L s.heap m) (N : News h₀ L s.heap news) (hm : (d, od) ∈ news)
    (hd : od.IsDictOf (PySem.strKind prog w) kvs) (h64 : kvs.length < 64)
    (h : ∀ (D : Addr) (h' : Heap) (tk : Nat) (vs : List Value) (ss : List Str) (e : Nat), Fr h₀ L h' m → News h₀ L h' ((D, listOf vs.toArray e) :: news) → (∀ q ∈ news, q.1 < D) → StrsAre vs ss → ss.Perm (kvs.map (·.1)) → sortedS ss = true → Q (.ref D) { s with heap := h', toks := tk }) :
    wpAny (model prog w) A (call (.builtin "sorted") [.ref d]) Q E s := by
  have hdo : s.heap.DictOf (PySem.strKind prog w) d kvs := Heap.dictOf_iff.mpr ⟨od, (N _ hm).1, hd⟩
  obtain ⟨ep, hat⟩ := hdo.dictAt
  refine kdu_sorted (kdl_dict (knd := PySem.strKind prog w) (kvs := kvs) (ep := ep) lo) hh F N hat (by rw [PySem.sizeLine_eq]; omega) fun D h' tk vs F' N' l1 hl hv => ?_
  have hS := keys_strs (prog := prog) (w := w) hl hv
  have ho : h'.get? D = some (seqObj "list" vs.toArray 0) := (N' _ (.head _)).1
  refine wpAny_call_entry slot_list_sort ⟨_, ho, rfl⟩ entry_list_sort (list_sort_treeK strKind_oneLt ho hS.keysOf (fun v₁ v₂ rest e => keyKind_strs (by rw [← e]; exact hS)) (by rw [hl]; exact h64) fun st' hp hs => ⟨_, rfl, ?_⟩) (args_list_sort _)
  obtain ⟨ss', a1, a2, a3⟩ := sorted_out_str hS hp hs
  obtain ⟨e, he⟩ := sortedHeap_at (out := (arrOf st').map (·.2)) ho
  have hDL : D ≠ L := (N' _ (.head _)).2.1
  have hD0 : h₀.get? D = none := (N' _ (.head _)).2.2
  have old : ∀ b o, b ≠ D → h'.get? b = some o → (sortedHeap h' D vs ((arrOf st').map (·.2))).get? b = some o := fun b o hb e' => (sortedHeap_old hb (Heap.lt_size e')).trans e'
  refine h D _ tk ((arrOf st').map (·.2)).toList ss' e ?_ ?_ l1 a1 a2 a3
  · obtain ⟨oL, b1, b2, hL, b3⟩ := F'.ns
    exact ⟨⟨oL, b1, b2, old _ _ (Ne.symm hDL) hL, b3⟩, fun b o e' => old b o (fun q => by rw [q, hD0] at e'; cases e') (F'.keep b o e'), F'.above⟩
  · intro p hp
    rcases List.mem_cons.mp hp with rfl | hp
    · exact ⟨by rw [Array.toArray_toList]; exact he, hDL, hD0⟩
    · have hN := N' p (.tail _ hp)
      exact ⟨old _ _ (Nat.ne_of_lt (l1 p hp)) hN.1, hN.2⟩
end

end
-- PlainKn
section
open PySem PySem.W PyProof.Rows PySem.Spec PyProof.V
def kv (l : List (Str × Bool)) : List (Str × Value) := l.map fun p => (p.1, Value.bool p.2)
def hasB (l : List (Str × Bool)) (x : Str) : Bool := l.any fun p => p.1 = x
def putB (l : List (Str × Bool)) (x : Str) (b : Bool) : List (Str × Bool) := if hasB l x = true then l.map (fun p => if p.1 = x then (p.1, b) else p) else l ++ [(x, b)]
def getB (l : List (Str × Bool)) (x : Str) : Bool := match l.find? (fun p => p.1 = x) with | some p => p.2 | none => false
theorem kv_any (l : List (Str × Bool)) (x : Str) : (kv l).any (fun p => decide (p.1 = x)) = hasB l x := by
  unfold kv hasB
  rw [List.any_map]; rfl
theorem stored_kv (l : List (Str × Bool)) (x : Str) (b : Bool) : stored (kv l) x (.bool b) = kv (putB l x b) := by
  unfold stored putB
  rw [kv_any]
  split
  · unfold kv
    rw [List.map_map, List.map_map]
    refine List.map_congr_left fun p _ => ?_
    simp only [Function.comp]
    split <;> rfl
  · unfold kv; rw [List.map_append]; rfl
theorem flat_kv : ∀ l : List (Str × Bool), FlatPairs PyData.str (kv l) (l.map fun p => (PyData.str p.1, PyData.bool p.2))
  | [] => .nil
  | _ :: r => .cons (Flat.bool _) (flat_kv r)
theorem valueAt_kv (l : List (Str × Bool)) (x : Str) : (valueAt (kv l) x).isSome = hasB l x := by
  unfold valueAt
  rw [Option.isSome_map, ← kv_any]
  induction kv l with
  | nil => rfl
  | cons p r ih =>
    rw [List.find?_cons, List.any_cons, ← ih]
    cases decide (p.1 = x) <;> rfl
theorem valueAt_get {l : List (Str × Bool)} {x : Str} (h : hasB l x = true) : valueAt (kv l) x = some (.bool (getB l x)) := by
  unfold valueAt getB kv
  rw [List.find?_map]
  unfold hasB at h
  have e : ((fun kv => decide (kv.fst = x)) ∘ fun (p : Str × Bool) => (p.1, Value.bool p.2)) = fun p => decide (p.1 = x) := rfl
  rw [e]
  cases q : l.find? fun p => decide (p.1 = x) with
  | none =>
    rw [List.find?_eq_none] at q
    rw [List.any_eq_true] at h
    obtain ⟨p, hp, hx⟩ := h
    exact absurd hx (q p hp)
  | some p => rfl
theorem putB_len (l : List (Str × Bool)) (x : Str) (b : Bool) : (putB l x b).length ≤ l.length + 1 := by
  unfold putB; split
  · rw [List.length_map]; omega
  · simp
theorem kv_len (l : List (Str × Bool)) : (kv l).length = l.length := by simp [kv]
section
variable {prog : Program} {w : World} {A : Around} {E : Value → Shared → Prop} {s : Shared} {h₀ : Heap} {L d : Addr} {m : Str → Option Value} {news : List (Addr × Obj)} {od : Obj} {l : List (Str × Bool)} {x : Str} {t : Tok} {b : Bool} {g : Obj → List (Addr × Obj)}
theorem setItem_kv {Q : Unit → Shared → Prop} (F : Fr h₀ L s.heap m) (N : News h₀ L s.heap news) (U : UpdF d od news g) (hd : od.IsDictOf (PySem.strKind prog w) (kv l)) (hsz : l.length ≤ 1000)
    (h : ∀ h' o', Fr h₀ L h' m → News h₀ L h' (g o') → o'.IsDictOf (PySem.strKind prog w) (kv (putB l x b)) → Q () { s with heap := h', toks := s.toks + 1 }) :
    wpAny (model prog w) A (setItem (.ref d) (.str x t) (.bool b)) Q E s := by
  obtain ⟨own, rest, rfl, hg, h1, h2⟩ := U.split
  refine setItem_made_str (rest := own ++ rest) (D := l.map fun p => (PyData.str p.1, PyData.bool p.2)) (Flat.bool b) F (fun p hp => N p ?_) (fun p hp => ?_) hd (flat_kv l) (fun h' o' F' N' hd' _ => ?_) (by rw [PySem.sizeLine_eq, List.length_map]; omega)
  · rcases List.mem_cons.mp hp with rfl | hp
    · exact List.mem_append_right _ (.head _)
    · rcases List.mem_append.mp hp with hp | hp
      · exact List.mem_append_left _ hp
      · exact List.mem_append_right _ (.tail _ hp)
  · rcases List.mem_append.mp hp with hp | hp
    · exact h1 p hp
    · exact h2 p hp
  · rw [stored_kv] at hd'
    refine h h' o' F' (fun p hp => N' p ?_) hd'
    rw [hg] at hp
    rcases List.mem_append.mp hp with hp | hp
    · exact .tail _ (List.mem_append_left _ hp)
    · rcases List.mem_cons.mp hp with rfl | hp
      · exact .head _
      · exact .tail _ (List.mem_append_right _ hp)
theorem notIn_kv {Q : Value → Shared → Prop} (N : News h₀ L s.heap news) (hm : (d, od) ∈ news) (hd : od.IsDictOf (PySem.strKind prog w) (kv l)) (lo : (d == sysModules) = false)
    (h : Q (.bool (!hasB l x)) { s with toks := s.toks + 1 }) : wpAny (model prog w) A (compareOp .NotIn (.str x t) (.ref d)) Q E s := by
  have hdo : s.heap.DictOf (PySem.strKind prog w) d (kv l) := Heap.dictOf_iff.mpr ⟨od, (N _ hm).1, hd⟩
  exact wpAny_notIn_of (strKind_is prog w x t) lo hdo.mapOf (by rw [valueAt_kv]; exact h)
theorem item_kv {value slice : Expr} {Q : Value → Shared → Prop} (N : News h₀ L s.heap news) (hm : (d, od) ∈ news) (hd : od.IsDictOf (PySem.strKind prog w) (kv l)) (hx : hasB l x = true)
    (h : Q (.bool (getB l x)) { s with toks := s.toks + 1 })
    (hs : subscripted slice false (.ref d) (.str x t) = operate [.ref d, .str x t] (getItem (.ref d) (.str x t)) := by with_unfolding_all rfl) :
    wpAny (model prog w) A (subscriptTail value slice (.ref d) (.str x t)) Q E s := by
  have hdo : s.heap.DictOf (PySem.strKind prog w) d (kv l) := Heap.dictOf_iff.mpr ⟨od, (N _ hm).1, hd⟩
  exact tail_any hdo.mapOf.typeIs slot_dict_getitem.lookup (wpAny_getItem_of (strKind_is prog w x t) hdo.mapOf (valueAt_get hx) h) hs
end
def addPar (k : List (Str × Bool)) (x : Str) : List (Str × Bool) := if hasB k x = true then k else putB k x false
def addTrue (ns : List Str) : List (Str × Bool) := ns.foldl (fun k x => putB k x true) []
def addAll (k : List (Str × Bool)) (ns : List Str) : List (Str × Bool) := ns.foldl (fun k x => (parentsS x).foldl addPar k) k
theorem addTrue_len : ∀ (ns : List Str) (k : List (Str × Bool)), (ns.foldl (fun k x => putB k x true) k).length ≤ k.length + ns.length
  | [], _ => by simp
  | x :: r, k => by
    have h1 := addTrue_len r (putB k x true)
    have h2 := putB_len k x true
    simp only [List.foldl_cons, List.length_cons]
    omega
theorem addPar_len1 (k : List (Str × Bool)) (x : Str) : (addPar k x).length ≤ k.length + 1 := by
  unfold addPar; split
  · omega
  · exact putB_len k x false
theorem addPar_len : ∀ (ns : List Str) (k : List (Str × Bool)), (ns.foldl addPar k).length ≤ k.length + ns.length
  | [], _ => by simp
  | x :: r, k => by
    have h1 := addPar_len r (addPar k x)
    have h2 := addPar_len1 k x
    simp only [List.foldl_cons, List.length_cons]
    omega
theorem addAll_len : ∀ (ns : List Str) (k : List (Str × Bool)), (∀ x ∈ ns, (parentsS x).length ≤ 3) → (addAll k ns).length ≤ k.length + 3 * ns.length
  | [], _, _ => by simp [addAll]
  | x :: r, k, h => by
    have h1 := addAll_len r ((parentsS x).foldl addPar k) fun y hy => h y (.tail _ hy)
    have h2 := addPar_len (parentsS x) k
    have h3 := h x (.head _)
    unfold addAll at h1 ⊢
    simp only [List.foldl_cons, List.length_cons]
    omega
theorem putB_keys {l : List (Str × Bool)} {x : Str} {b : Bool} {y : Str} (h : y ∈ (putB l x b).map (·.1)) : y = x ∨ y ∈ l.map (·.1) := by
  unfold putB at h
  split at h
  · rw [List.map_map] at h
    obtain ⟨p, hp, e⟩ := List.mem_map.mp h
    refine .inr (List.mem_map.mpr ⟨p, hp, ?_⟩)
    rw [← e]
    simp only [Function.comp]
    split <;> rfl
  · rw [List.map_append] at h
    rcases List.mem_append.mp h with h | h
    · exact .inr h
    · exact .inl (by simpa using h)
theorem addTrue_keys : ∀ (ns : List Str) (k : List (Str × Bool)) (y : Str), y ∈ (ns.foldl (fun k x => putB k x true) k).map (·.1) → y ∈ ns ∨ y ∈ k.map (·.1)
  | [], _, _, h => .inr h
  | x :: r, k, y, h => by
    rcases addTrue_keys r _ y h with h | h
    · exact .inl (.tail _ h)
    · rcases putB_keys h with h | h
      · subst h; exact .inl (.head _)
      · exact .inr h
theorem addPar_keys : ∀ (ns : List Str) (k : List (Str × Bool)) (y : Str), y ∈ (ns.foldl addPar k).map (·.1) → y ∈ ns ∨ y ∈ k.map (·.1)
  | [], _, _, h => .inr h
  | x :: r, k, y, h => by
    rcases addPar_keys r _ y h with h | h
    · exact .inl (.tail _ h)
    · unfold addPar at h
      split at h
      · exact .inr h
      · rcases putB_keys h with h | h
        · subst h; exact .inl (.head _)
        · exact .inr h
theorem addAll_keys : ∀ (ns : List Str) (k : List (Str × Bool)) (y : Str), y ∈ (addAll k ns).map (·.1) → (∃ x ∈ ns, y ∈ parentsS x) ∨ y ∈ k.map (·.1)
  | [], _, _, h => .inr h
  | x :: r, k, y, h => by
    rcases addAll_keys r _ y h with ⟨z, hz, h⟩ | h
    · exact .inl ⟨z, .tail _ hz, h⟩
    · rcases addPar_keys _ _ y h with h | h
      · exact .inl ⟨x, .head _, h⟩
      · exact .inr h
theorem has_of_mem {l : List (Str × Bool)} {x : Str} (h : x ∈ l.map (·.1)) : hasB l x = true := by
  obtain ⟨p, hp, e⟩ := List.mem_map.mp h
  unfold hasB
  rw [List.any_eq_true]
  exact ⟨p, hp, decide_eq_true e⟩
theorem kv_keys (l : List (Str × Bool)) : (kv l).map (·.1) = l.map (·.1) := by unfold kv; rw [List.map_map]; rfl
/-- the listing: those that meet, with what is known of them -/
def resB (kn : List (Str × Bool)) (W : Str) (ss : List Str) : List (Str × Bool) := (ss.filter fun x => listedN W.cps.toList x.cps.toList (anyLen x).toNat).map fun x => (x, getB kn x)
/-- values that are made tuples of the ledger -/
inductive TupsAre (led : Led) : List Value → List (Str × Bool) → Prop
  | nil : TupsAre led [] []
  | cons {a : Addr} {x : Str} {t : Tok} {b : Bool} {ys : List Value} {rs : List (Str × Bool)} : (a, tupOf [.str x t, .bool b]) ∈ led → TupsAre led ys rs → TupsAre led (.ref a :: ys) ((x, b) :: rs)
theorem TupsAre.mono {led led' : Led} {ys : List Value} {rs : List (Str × Bool)} (h : TupsAre led ys rs) (hs : ∀ p ∈ led, p ∈ led') : TupsAre led' ys rs := by
  induction h with
  | nil => exact .nil
  | cons hm _ ih => exact .cons (hs _ hm) ih
theorem TupsAre.snoc {led : Led} {ys : List Value} {rs : List (Str × Bool)} {a : Addr} {x : Str} {t : Tok} {b : Bool} (h : TupsAre led ys rs) (hm : (a, tupOf [.str x t, .bool b]) ∈ led) : TupsAre led (ys ++ [.ref a]) (rs ++ [(x, b)]) := by
  induction h with
  | nil => exact .cons hm .nil
  | cons hm' _ ih => exact .cons hm' ih
theorem resB_yes {kn : List (Str × Bool)} {W : Str} {ss : List Str} {i : Nat} {x : Str} (hx : ss[i]? = some x) (h : listedN W.cps.toList x.cps.toList (anyLen x).toNat = true) : resB kn W (ss.take (i + 1)) = resB kn W (ss.take i) ++ [(x, getB kn x)] := by
  unfold resB
  rw [List.take_add_one, hx]
  simp [h]
theorem resB_no {kn : List (Str × Bool)} {W : Str} {ss : List Str} {i : Nat} {x : Str} (hx : ss[i]? = some x) (h : listedN W.cps.toList x.cps.toList (anyLen x).toNat = false) : resB kn W (ss.take (i + 1)) = resB kn W (ss.take i) := by
  unfold resB
  rw [List.take_add_one, hx]
  simp [h]
/-- a contract that says nothing of the new objects' order -/
def ConN (w : World) (mean : ExcName → Option Value) (mg mb : Str → Option Value) (f : Addr) (dd uu : Nat) (Pre : Led → Prop) (vs : List Value) (Out : Value → Led → Prop) : Prop :=
  ∀ (dp un : Nat) (gd : Option (List Code)) (cn : Str) (cs : Scope) (a : Addr) (ccd : Value) (cl : List (Str × Addr)) (outer : List Env) (A₀ : Around) (base h₀ : Heap) (L : Addr) (m : Str → Option Value) (news : Led) (s : Shared)
    (Q E : Value → Shared → Prop),
    Below A₀ base outer h₀ → Fr h₀ L s.heap m → (hd.heap_39 w.params).In h₀ → News h₀ L s.heap news → Top hd.view_39 (looseW hd.view_39 [Str.ofString "PostError"]) mean mg mb h₀ → cs.kind = .function → dp + dd < recursionLimit → un + uu < cLine → Pre news →
    (∀ r tl h' tk', Fr h₀ L h' m → News h₀ L h' (tl ++ news) → Out r tl → Q r { s with heap := h', toks := tk' }) →
    wpAny (model PySem.Challenge.rw_pq0938_01.row.prog w) (ktrTop dp un gd cn cs L a ccd cl outer) (call (.ref f) vs) Q E s
/-- a made list of made tuples -/
def ListingOf (rs : List (Str × Bool)) (r : Value) (tl : Led) : Prop := ∃ D ys nn, r = .ref D ∧ (D, listOf ys.toArray nn) ∈ tl ∧ TupsAre tl ys rs

end
-- F_names
local macro_rules | `(tactic| k_mem) => `(tactic| first | ktr_member | exact List.mem_cons_self | (refine List.mem_cons_of_mem _ ?_; k_mem))
section
set_option maxHeartbeats 8000000

structure DkSt where
  od : Obj
  kn : List (Str × Bool)
theorem strs_at {vs : List Value} {ns : List Str} (h : StrsAre vs ns) : ∀ (i : Nat) (v : Value), vs[i]? = some v → ∃ x t, ns[i]? = some x ∧ v = .str x t := by
  induction h with
  | nil => intro i v e; cases e
  | cons y t _ ih =>
    intro i v e
    cases i with
    | zero => simp only [List.getElem?_cons_zero, Option.some.injEq] at e; subst e; exact ⟨y, t, rfl, rfl⟩
    | succ i => exact ih i v (by simpa using e)
theorem str_item {vs : List Value} {ns : List Str} {i : Nat} {v : Value} (hi : StrsAre vs ns) (h : vs.toArray[i]? = some v) : ∃ x t, ns[i]? = some x ∧ v = .str x t := strs_at hi i v (by simpa using h)
def knownB (ns : List Str) (W : Str) : List (Str × Bool) := if Txt.endswith W (Str.ofString "%") = true then addAll (addTrue ns) ns else addTrue ns
theorem sub_tup (a b c d : Addr × Obj) (nw : Led) : ∀ p ∈ b :: c :: d :: a :: nw, p ∈ a :: b :: c :: d :: nw := by
  intro p hp
  simp only [List.mem_cons] at hp ⊢
  rcases hp with h | h | h | h | h <;> simp [h]
section
local macro_rules | `(tactic| walk_at "eval ListComp") => `(tactic| (k_here; refine hold ?_))
local macro_rules | `(tactic| walk_at "call ref") => `(tactic| (k_here; (with_reducible show wpAny _ _ (call (Value.ref 214) [Value.str _ _, Value.str _ _]) _ _ _); k_dflt (refine' useS (c_whole _ _ _ _ _ _ _ _ ?hx ?hy) ?k1 ?k2 ?k3 ?k4 ?k5 ?kK ?kd ?ku ?kp ?_); walk_at "mine ctx"; (case kp => trivial); (case hx => first | assumption | omega); (case hy => first | assumption | omega); intro t9 h9 tk9 F9 N9; (try dsimp only); (try k_fold)))
local macro_rules | `(tactic| walk_at "call ref") => `(tactic| (k_here; (with_reducible show wpAny _ _ (call (Value.ref 179) [Value.str _ _]) _ _ _); k_dflt (refine' useO (c_parents _ _ _ _ _ _ ?hx) ?k1 ?k2 ?k3 ?k4 ?k5 ?kK ?kd ?ku ?kp ?_); walk_at "mine ctx"; (case kp => trivial); (case hx => first | assumption | omega); intro D9 o9 h9 tk9 O9 F9 N9 l9; (obtain ⟨ws9, mm9, e9, W9⟩ := O9; subst e9); (try k_lt l9); (try dsimp only); (try k_fold)))
local macro_rules | `(tactic| walk_at "call ref") => `(tactic| (k_here; (with_reducible show wpAny _ _ (call (Value.ref 207) [Value.str _ _, Value.str _ _]) _ _ _); k_dflt (refine' useB (c_is_listed _ _ _ _ _ _ _ _ ?hx ?hy) ?k1 ?k2 ?k3 ?k4 ?k5 ?kK ?kd ?ku ?kp ?_); walk_at "mine ctx"; (case kp => trivial); (case hx => first | assumption | omega); (case hy => first | assumption | omega); intro t9 h9 tk9 F9 N9; (try dsimp only); (try k_fold)))
local macro_rules | `(tactic| walk_at "eval Name") => `(tactic| (k_here; (with_reducible show wpAny _ _ (eval (Expr.Name _ _) (compEnvC _ _ _ _)) _ _ _); k_dflt (first
  | (refine' LCgL.ld_own ?N ?m ?c ?x ?_ ?a ?b ?d; (case d => decide); (case a => exact rfl); (case b => exact rfl); (case N => k_asm); (case m => k_mem); (case c => with_reducible assumption); (case x => with_reducible assumption); k_whole)
  | (refine' kcf_cell ?N ?c ?m ?v ?_ ?a ?b ?d; (case d => decide); (case a => exact rfl); (case b => exact rfl); (case N => k_asm); (case c => exact rfl); (case m => k_mem); (case v => with_reducible assumption); k_whole))))
local macro_rules | `(tactic| walk_at "setItem ref str") => `(tactic| (k_here; k_dflt (refine' setItem_kv ?F ?N ?U ?d ?z ?_; (case F => k_asm); (case N => k_asm); (case d => assumption); (case U => k_updF); (case z => omega); k_whole); intro h9 o9 F9 N9 d9))
local macro_rules | `(tactic| walk_at "compareOp NotIn str ref") => `(tactic| (k_here; k_dflt (refine' notIn_kv ?N ?m ?d ?lo ?_; (case N => k_asm); (case d => assumption); (case m => k_mem); (case lo => assumption); k_whole)))
local macro_rules | `(tactic| walk_at "subscriptTail Name Name ref str") => `(tactic| (k_here; k_dflt (refine' item_kv ?N ?m ?d ?x ?_ ?s; (case N => k_asm); (case d => assumption); (case m => k_mem); (case x => assumption); (case s => with_unfolding_all rfl); k_whole)))

theorem c_list_names (w : World) (mean mg mb) (l : Addr) (vs : List Value) (nn : Nat) (ns : List Str) (r p : Str) (t t' : Tok) (hS : StrsAre vs ns) (hn : ∀ x ∈ ns, x.length ≤ 50) (hl : ns.length ≤ 8) (hpar : ∀ x ∈ ns, (parentsS x).length ≤ 3 ∧ ∀ y ∈ parentsS x, y.length ≤ 50) (hr : r.length ≤ 90) (hp : p.length ≤ 90) :
    ConN w mean mg mb 219 4 120 (fun news => (l, listOf vs.toArray nn) ∈ news) [.ref l, .str r t, .str p t']
      (fun v tl => ∃ ss, (p.cps.toList = [] → ss = []) ∧ (p.cps.toList ≠ [] → ss.Perm ((knownB ns (wholeS r p)).map (·.1)) ∧ sortedS ss = true) ∧ ListingOf (resB (knownB ns (wholeS r p)) (wholeS r p) ss) v tl) := by
  try unfold ConS
  try unfold ConB
  try unfold ConI
  try unfold ConO
  unfold ConN
  k_fill
  intro dp un gd cn cs a ccd cl outer A₀ base h₀ L m news s Q E B F X N T hk hd hu hm hret
  refine wpAny_call ?_
  k_dflt (refine' code_defC ?k1 ?k2 ?k3 ?k4 ?k5 ?kA ?kF ?kK ?k6 ?k7 ?k8 ?k9 ?kB ?kD ?_ ?c2 ?c3 ?c4; (case kA => exact rfl); (case kF => exact rfl); (case kK => assumption); (case k1 => k_asm); (case k2 => k_asm); (case k3 => k_asm); (case k4 => k_asm); (case k5 => k_asm); (case k6 => k_is); (case k7 => k_is); (case k8 => ktr_room); (case k9 => exact BindsTo.of_eq rfl); (case kB => exact rfl); (case kD => decide +kernel); (case c2 => exact rfl); (case c3 => exact rfl); (case c4 => exact rfl); k_whole; intro g' L' h' tk' cells' FG' F' N' Y' B' X' T' l1; (try k_lt l1); k_cells Y'; (try simp only [List.cons_append, List.nil_append] at N'); (try dsimp only); (try k_fold))
  have hc1 : ∀ p ∈ news, p.1 < L' + 1 := fun p hp => Nat.lt_succ_of_lt (l1 p hp)
  have hc2 : ∀ p ∈ news, p.1 < L' + 1 + 1 := fun p hp => Nat.lt_succ_of_lt (hc1 p hp)
  have hwl : (wholeS r p).length ≤ 180 := by
    unfold wholeS; split
    · have := PyProof.Txt.length_slice_le p (some 1) none; omega
    · rw [Str.length_append]; omega
  k_steps
  · rename_i hpe l9 h9 F9 N9 lt9 kF kN Tc kX
    exact hret _ [(l9, listOf #[] 0)] _ _ kF (fun p hp => (List.mem_cons.mp hp).elim (fun e => kN p (e ▸ .head _)) fun h => kN p (.tail _ (.tail _ (.tail _ h)))) ⟨[], fun _ => rfl, fun h => absurd (eq_empty hpe) h, l9, [], _, rfl, .head _, .nil⟩
  have hpn : ¬ p.cps.toList = [] := by
    obtain ⟨a1, q, e1⟩ := ne_empty (p := p) (by assumption)
    rw [e1]; exact List.cons_ne_nil _ _
  unfold Hold
  rename_i o9 dd9 d0 g1 o1 lo hs fs hi fi l2 g2 o2 F1 N1 d1
  have hns : vs.length = ns.length := hS.length
  refine for_list (σ := DkSt) (fun c => (d0, c.od) :: (L' + 1 + 1, o2) :: (L' + 1, o9) :: news) (fun c => [(Str.ofString "names", .ref l)])
    (fun i c => Obj.IsDictOf (PySem.strKind PySem.Challenge.rw_pq0938_01.row.prog w) c.od (kv c.kn) ∧ c.kn = (ns.take i).foldl (fun k x => putB k x true) []) ⟨o1, []⟩ (by rfl) (by rfl) (fun _ _ _ => .tail _ (.tail _ (.tail _ hm))) F1 N1 (by kst_all) ⟨hs, rfl⟩ ?_ ?_
  · rintro i v ⟨od, kn⟩ u I oI h tk hv ⟨hd2, he⟩ hlt hne F2 N2
    obtain ⟨x, tx, hx, rfl⟩ := str_item hS hv
    dsimp only at hd2 he hne F2 N2
    have hkl := addTrue_len (ns.take i) []
    rw [← he, List.length_take] at hkl
    simp only [List.length_nil] at hkl
    have hdI : @Ne Nat d0 I := hne _ (.head _)
    have hd3 := ktn_ltOf l2.2.2
    k_steps
    exact ForNext.intro ⟨_, putB kn x true⟩ (by assumption) (by assumption) (fun _ h => h) (off_same hlt) (by kst_all) ⟨by assumption, fold_next hx he rfl⟩
  · rintro ⟨od, kn⟩ u h tk ⟨hd2, he⟩ F2 N2
    dsimp only at hd2 he F2 N2
    have he : kn = addTrue ns := by rw [he, List.size_toArray, hns, List.take_length]; rfl
    have hkl := addTrue_len ns []
    simp only [List.length_nil] at hkl
    have hkk : ∀ x ∈ kn.map (·.1), x.length ≤ 50 := fun x hx => by
      rw [he] at hx
      rcases addTrue_keys ns [] x hx with h | h
      · exact hn x h
      · cases h
    have hkl : kn.length ≤ 8 := by rw [he]; unfold addTrue; omega
    k_steps
    · have hpct : Txt.endswith (wholeS r p) (Str.ofString "%") = true := by assumption
      unfold Hold
      refine for_list (σ := DkSt) (fun c => (d0, c.od) :: (L' + 1 + 1, o2) :: (L' + 1, o9) :: news) (fun c => [(Str.ofString "names", .ref l)])
        (fun i c => Obj.IsDictOf (PySem.strKind PySem.Challenge.rw_pq0938_01.row.prog w) c.od (kv c.kn) ∧ c.kn = (ns.take i).foldl (fun k x => (parentsS x).foldl addPar k) kn) ⟨od, kn⟩ (by rfl) (by rfl) (fun _ _ _ => .tail _ (.tail _ (.tail _ hm))) (by assumption) N2 (by kst_all) ⟨hd2, rfl⟩ ?_ ?_
      · rintro i v ⟨od1, kn1⟩ u1 I oI h1 tk1 hv ⟨hd4, he4⟩ hlt hne F4 N4
        obtain ⟨x, tx, hx, rfl⟩ := str_item hS hv
        dsimp only at hd4 he4 hne F4 N4
        have hx5 := hn x (List.mem_of_getElem? hx)
        have hx6 := hpar x (List.mem_of_getElem? hx)
        have hdI : @Ne Nat d0 I := hne _ (.head _)
        have hkl4 := addAll_len (ns.take i) kn fun y hy => (hpar y (List.mem_of_mem_take hy)).1
        unfold addAll at hkl4
        rw [← he4, List.length_take] at hkl4
        k_steps
        unfold Hold
        rename_i D5 g5 tk5 F5 ws5 mm5 W5 N5 l5
        refine for_list (σ := DkSt) (fun c => (d0, c.od) :: (D5, listOf ws5.toArray mm5) :: (I, oI) :: (L' + 1 + 1, o2) :: (L' + 1, o9) :: news) (fun c => [(Str.ofString "names", .ref l)])
          (fun i c => Obj.IsDictOf (PySem.strKind PySem.Challenge.rw_pq0938_01.row.prog w) c.od (kv c.kn) ∧ c.kn = ((parentsS x).take i).foldl addPar kn1) ⟨od1, kn1⟩ (by rfl) (by rfl) (fun _ _ _ => .tail _ (.head _)) F5 (fun p hp => N5 p (by simp only [List.mem_cons] at hp ⊢; rcases hp with h | h | h | h | h | h <;> simp [h])) (by kst_all) ⟨hd4, rfl⟩ ?_ ?_
        · rintro i2 v2 ⟨od3, kn3⟩ u3 I3 oI3 h3 tk3 hv3 ⟨hd6, he6⟩ hlt3 hne3 F6 N6
          obtain ⟨y, ty, hy, rfl⟩ := str_item W5 hv3
          dsimp only at hd6 he6 hne3 F6 N6
          have hkl6 := addPar_len ((parentsS x).take i2) kn1
          rw [← he6, List.length_take] at hkl6
          have hd3 := ktn_ltOf l2.2.2
          have hdD : @LT.lt Nat _ d0 D5 := l5.2.1
          have hd1 : @LT.lt Nat _ (L' + 1 + 1) d0 := l2.1
          have hdI3 : @Ne Nat d0 I3 := hne3 _ (.head _)
          k_steps
          · exact ForNext.intro ⟨od3, kn3⟩ F6 N6 (fun _ h => h) hne3 (by kst_all) ⟨hd6, fold_next hy he6 (by unfold addPar; rw [if_pos (by assumption)])⟩
          · exact ForNext.intro ⟨_, putB kn3 y false⟩ (by assumption) (by assumption) (fun _ h => h) (off_same hlt3) (by kst_all) ⟨by assumption, fold_next hy he6 (by unfold addPar; rw [if_neg (ne_true_of_eq_false (by assumption))])⟩
        · rintro ⟨od3, kn3⟩ u3 h3 tk3 ⟨hd6, he6⟩ F6 N6
          dsimp only at hd6 he6 F6 N6
          k_steps
          refine ForNext.intro ⟨od3, kn3⟩ F6 N6 (fun p hp => by simp only [List.mem_cons] at hp ⊢; rcases hp with h | h | h | h | h <;> simp [h]) (off_same hlt) (by kst_all) ⟨hd6, fold_next hx he4 ?_⟩
          dsimp only
          rw [he6, List.size_toArray, W5.length, List.take_length]
      · rintro ⟨od1, kn1⟩ u1 h1 tk1 ⟨hd4, he4⟩ F4 N4
        dsimp only at hd4 he4 F4 N4
        have he4 : kn1 = addAll kn ns := by rw [he4, List.size_toArray, hns, List.take_length]; rfl
        have hkl4 := addAll_len ns kn fun y hy => (hpar y hy).1
        rw [← he4] at hkl4
        have hkk : ∀ x ∈ kn1.map (·.1), x.length ≤ 50 := fun x hx => by
          rw [he4] at hx
          rcases addAll_keys ns kn x hx with ⟨z, hz, h⟩ | h
          · exact (hpar z hz).2 x h
          · exact hkk x h
        have heK : kn1 = knownB ns (wholeS r p) := by unfold knownB; rw [if_pos hpct, he4, he]
        k_steps
        unfold Hold
        k_dflt (refine LCt.ListComp_T (F₀ := by k_asm) (by with_unfolding_all rfl) (by decide) (by rfl) (by decide) (by rfl) ?_)
        k_steps
        refine sorted_dict lo (by rfl) F4 N4 (.head _) hd4 (by rw [kv_len]; omega) ?_
        intro D6 h6 tk6 vs6 ss6 e6 F6 N6 l6 S6 P6 O6
        k_steps
        rw [kv_keys] at P6
        have hs6 : vs6.length = kn1.length := by rw [S6.length, P6.length_eq, List.length_map]
        refine LCt.CompSrcT.ledger (by rfl) F6 N6 (.head _) (by rw [PySem.sizeLine_eq, List.size_toArray]; omega) ?_
        intro g7
        refine restT_inv (fun i ys nw => (∀ q ∈ (D6, listOf vs6.toArray e6) :: (d0, od1) :: (L' + 1 + 1, o2) :: (L' + 1, o9) :: news, q ∈ nw) ∧ TupsAre nw ys (resB kn1 (wholeS r p) (ss6.take i))) ⟨fun _ h => h, .nil⟩ ?_ ?_
        · rintro i v I oI C oC D m₂ ys nw h7 tk7 E' hi7 hv7 ⟨hnw, hT⟩ hC hx7 F7 N7 off ne
          obtain ⟨x, tx, hx, rfl⟩ := str_item S6 hv7
          have hxk : x ∈ kn1.map (·.1) := P6.mem_iff.mp (List.mem_of_getElem? hx)
          have hxb : hasB kn1 x = true := has_of_mem hxk
          have hx5 := hkk x hxk
          have m0 : (D6, listOf vs6.toArray e6) ∈ nw := hnw _ (.head _)
          have m1 : (d0, od1) ∈ nw := hnw _ (.tail _ (.head _))
          have m2 : (L' + 1 + 1, o2) ∈ nw := hnw _ (.tail _ (.tail _ (.head _)))
          have m3 : (L' + 1, o9) ∈ nw := hnw _ (.tail _ (.tail _ (.tail _ (.head _))))
          k_steps
          · rename_i t9 h9 tk9 F9 N9 hy h10 F10 N10 hk10 nm10
            exact LCg.CompEnd.intro F10 N10 _ (sub_tup _ _ _ _ _) ⟨⟨Nat.ne_of_gt (Heap.lt_size (N9 _ (.head _)).1), Nat.ne_of_gt (Heap.lt_size (N9 _ (.tail _ (.head _))).1), Nat.ne_of_gt (Heap.lt_size (N9 _ (.tail _ (.tail _ (.head _)))).1)⟩, off⟩ (.inr ⟨_, .tail _ m0, rfl, _, rfl⟩)
              ⟨fun q hq => .tail _ (hnw q hq), by rw [resB_yes hx hy]; exact (hT.mono fun _ hp => .tail _ hp).snoc (.head _)⟩
          · rename_i t9 h9 tk9 F9 N9 hy
            exact LCg.CompEnd.intro F9 N9 _ (fun _ hp => hp) off (.inr ⟨_, m0, rfl, _, rfl⟩) ⟨hnw, by rw [resB_no hx hy]; exact hT⟩
        · rintro ys nw ⟨hnw, hT⟩
          k_steps
          rename_i D11 h11 tk11 F11 N11 o11 kF kN Tc kX
          rw [List.size_toArray, S6.length, List.take_length] at hT
          exact hret _ ((D11, LCg.lst ys) :: nw) _ _ kF (fun q hq => (List.mem_append.mp hq).elim (kN q) fun h => kN q (.tail _ (hnw q (.tail _ (.tail _ (.tail _ (.tail _ h))))))) ⟨ss6, fun e => absurd e hpn, fun _ => ⟨by rw [← heK]; exact P6, O6⟩, D11, ys, _, rfl, .head _, by rw [← heK]; exact hT.mono fun _ hp => .tail _ hp⟩
    · have hpct : Txt.endswith (wholeS r p) (Str.ofString "%") = false := by assumption
      have heK : kn = knownB ns (wholeS r p) := by unfold knownB; rw [if_neg (ne_true_of_eq_false hpct), he]
      unfold Hold
      k_dflt (refine LCt.ListComp_T (F₀ := by k_asm) (by with_unfolding_all rfl) (by decide) (by rfl) (by decide) (by rfl) ?_)
      k_steps
      refine sorted_dict lo (by rfl) F2 N2 (.head _) hd2 (by rw [kv_len]; omega) ?_
      intro D6 h6 tk6 vs6 ss6 e6 F6 N6 l6 S6 P6 O6
      k_steps
      rw [kv_keys] at P6
      have hs6 : vs6.length = kn.length := by rw [S6.length, P6.length_eq, List.length_map]
      refine LCt.CompSrcT.ledger (by rfl) F6 N6 (.head _) (by rw [PySem.sizeLine_eq, List.size_toArray]; omega) ?_
      intro g7
      refine restT_inv (fun i ys nw => (∀ q ∈ (D6, listOf vs6.toArray e6) :: (d0, od) :: (L' + 1 + 1, o2) :: (L' + 1, o9) :: news, q ∈ nw) ∧ TupsAre nw ys (resB kn (wholeS r p) (ss6.take i))) ⟨fun _ h => h, .nil⟩ ?_ ?_
      · rintro i v I oI C oC D m₂ ys nw h7 tk7 E' hi7 hv7 ⟨hnw, hT⟩ hC hx7 F7 N7 off ne
        obtain ⟨x, tx, hx, rfl⟩ := str_item S6 hv7
        have hxk : x ∈ kn.map (·.1) := P6.mem_iff.mp (List.mem_of_getElem? hx)
        have hxb : hasB kn x = true := has_of_mem hxk
        have hx5 := hkk x hxk
        have m0 : (D6, listOf vs6.toArray e6) ∈ nw := hnw _ (.head _)
        have m1 : (d0, od) ∈ nw := hnw _ (.tail _ (.head _))
        have m2 : (L' + 1 + 1, o2) ∈ nw := hnw _ (.tail _ (.tail _ (.head _)))
        have m3 : (L' + 1, o9) ∈ nw := hnw _ (.tail _ (.tail _ (.tail _ (.head _))))
        k_steps
        · rename_i t9 h9 tk9 F9 N9 hy h10 F10 N10 hk10 nm10
          exact LCg.CompEnd.intro F10 N10 _ (sub_tup _ _ _ _ _) ⟨⟨Nat.ne_of_gt (Heap.lt_size (N9 _ (.head _)).1), Nat.ne_of_gt (Heap.lt_size (N9 _ (.tail _ (.head _))).1), Nat.ne_of_gt (Heap.lt_size (N9 _ (.tail _ (.tail _ (.head _)))).1)⟩, off⟩ (.inr ⟨_, .tail _ m0, rfl, _, rfl⟩)
            ⟨fun q hq => .tail _ (hnw q hq), by rw [resB_yes hx hy]; exact (hT.mono fun _ hp => .tail _ hp).snoc (.head _)⟩
        · rename_i t9 h9 tk9 F9 N9 hy
          exact LCg.CompEnd.intro F9 N9 _ (fun _ hp => hp) off (.inr ⟨_, m0, rfl, _, rfl⟩) ⟨hnw, by rw [resB_no hx hy]; exact hT⟩
      · rintro ys nw ⟨hnw, hT⟩
        k_steps
        rename_i D11 h11 tk11 F11 N11 o11 kF kN Tc kX
        rw [List.size_toArray, S6.length, List.take_length] at hT
        exact hret _ ((D11, LCg.lst ys) :: nw) _ _ kF (fun q hq => (List.mem_append.mp hq).elim (kN q) fun h => kN q (.tail _ (hnw q (.tail _ (.tail _ (.tail _ (.tail _ h))))))) ⟨ss6, fun e => absurd e hpn, fun _ => ⟨by rw [← heK]; exact P6, O6⟩, D11, ys, _, rfl, .head _, by rw [← heK]; exact hT.mono fun _ hp => .tail _ hp⟩
end

end
-- F_spelled
section
set_option maxHeartbeats 8000000

/-- the law's spelling of one letter -/
def spellAt (x k : Int) : Str := if (x.fdiv (2 ^ k.toNat)).fmod 2 = 1 then Txt.item (Str.ofString "inbox") k else Txt.item (Str.ofString "INBOX") k
def spellS (x : Int) : Str := Str.join (Str.ofString "") ([0, 1, 2, 3, 4].map fun k => spellAt x k)
theorem spellAt_len (x k : Int) (h0 : 0 ≤ k) (h1 : k < 5) : (spellAt x k).length = 1 := by
  have : k = 0 ∨ k = 1 ∨ k = 2 ∨ k = 3 ∨ k = 4 := by omega
  unfold spellAt
  rcases this with rfl | rfl | rfl | rfl | rfl <;> split <;> decide +kernel
theorem spell_next {x k : Int} {i : Nat} {ys : List Value} {t : Tok} {r : Str} (hS : StrsAre ys ((([0, 1, 2, 3, 4] : List Int).take i).map fun k => spellAt x k)) (hg : ([0, 1, 2, 3, 4] : List Int)[i]? = some k) (e : r = spellAt x k) :
    StrsAre (ys ++ [.str r t]) ((([0, 1, 2, 3, 4] : List Int).take (i + 1)).map fun k => spellAt x k) := by
  subst e; exact strs_next hS hg
section
local macro_rules | `(tactic| walk_at "CompSrc") => `(tactic| (k_here; refine hold ?_))
theorem c_law_spelled (w : World) (mean mg mb) (x : Int) (t : Tok) (h0 : 0 ≤ x) (h1 : x < 32) : ConS w mean mg mb 250 1 30 (fun news => True) [.int x t] (spellS x) := by
  try unfold ConS
  try unfold ConB
  try unfold ConI
  try unfold ConO
  unfold Con
  k_fill
  intro dp un gd cn cs a ccd cl outer A₀ base h₀ L m news s Q E B F X N T hk hd hu hp hret
  refine wpAny_call ?_
  k_dflt (refine' code_defC ?k1 ?k2 ?k3 ?k4 ?k5 ?kA ?kF ?kK ?k6 ?k7 ?k8 ?k9 ?kB ?kD ?_ ?c2 ?c3 ?c4; (case kA => exact rfl); (case kF => exact rfl); (case kK => assumption); (case k1 => k_asm); (case k2 => k_asm); (case k3 => k_asm); (case k4 => k_asm); (case k5 => k_asm); (case k6 => k_is); (case k7 => k_is); (case k8 => ktr_room); (case k9 => exact BindsTo.of_eq rfl); (case kB => exact rfl); (case kD => decide +kernel); (case c2 => exact rfl); (case c3 => exact rfl); (case c4 => exact rfl); k_whole; intro g' L' h' tk' cells' FG' F' N' Y' B' X' T' l1; (try k_lt l1); k_cells Y'; (try simp only [List.cons_append, List.nil_append] at N'); (try dsimp only); (try k_fold))
  k_steps
  unfold Hold
  rename_i o1 d1 N0 h2 tk2 t1 u1 v1 R1 F1 N1 K1
  k_dflt (refine LCg.CompSrc.range (n := 5) (by rfl) F1 N1 R1 (by decide) (by rfl) (by rw [PySem.sizeLine_eq]; omega) ?_)
  intro g3
  refine rest_inv (fun i ys nw => nw = (L' + 1, o1) :: news ∧ StrsAre ys ((([0, 1, 2, 3, 4] : List Int).take i).map fun k => spellAt x k)) ⟨rfl, .nil⟩ ?_ ?_
  · rintro i v I oI C oC D m₂ ys nw h tk E' hi ⟨tv, rfl⟩ ⟨rfl, hS⟩ hC hx2 F2 N2 off ne
    have hget : ([0, 1, 2, 3, 4] : List Int)[i]? = some (0 + (i : Int)) := by
      have : i = 0 ∨ i = 1 ∨ i = 2 ∨ i = 3 ∨ i = 4 := by omega
      rcases this with rfl | rfl | rfl | rfl | rfl <;> rfl
    have hi2 : (0 : Int) + (i : Int) < 5 := by omega
    have hi3 : (0 : Int) ≤ 0 + (i : Int) := by omega
    generalize (0 : Int) + (i : Int) = k at hget hx2 hi2 hi3
    k_steps
    · exact LCg.CompEnd.intro (by assumption) (by assumption) _ (fun _ hp => hp) off trivial ⟨rfl, spell_next hS hget (by unfold spellAt; rw [if_pos (by assumption)])⟩
    · exact LCg.CompEnd.intro (by assumption) (by assumption) _ (fun _ hp => hp) off trivial ⟨rfl, spell_next hS hget (by unfold spellAt; rw [if_neg (by assumption)])⟩
  · rintro ys nw ⟨rfl, hS⟩
    k_steps
    have hlen : ((List.map (fun k => spellAt x k) [0, 1, 2, 3, 4]).map (·.length)).sum ≤ 5 := by
      simp only [List.map_cons, List.map_nil, List.sum_cons, List.sum_nil]
      have a0 := spellAt_len x 0 (by omega) (by omega)
      have a1 := spellAt_len x 1 (by omega) (by omega)
      have a2 := spellAt_len x 2 (by omega) (by omega)
      have a3 := spellAt_len x 3 (by omega) (by omega)
      have a4 := spellAt_len x 4 (by omega) (by omega)
      omega
    refine join_listW (News.isList (by assumption) (.head _)) hS (by decide +kernel) (by have : ((List.map (fun k => spellAt x k) (List.take 5 [0, 1, 2, 3, 4])).map (·.length)).sum ≤ 5 := hlen; simp only [List.length_map, List.length_take, List.length_cons, List.length_nil]; omega) ?_
    intro t9 k9
    rw [show Txt.join (Str.ofString "") (List.map (fun k => spellAt x k) (List.take 5 [0, 1, 2, 3, 4])) = spellS x from StrLaws.glued_eq_join _ _]
    k_steps
    exact hret _ [] _ _ (by k_asm) (cb_drop (by assumption) (by intro _ hp; repeat (first | exact hp | refine List.Mem.tail _ ?_))) lt_nil ⟨rfl, _, rfl⟩
end

end
-- DictP
section
open PySem PySem.W PyProof.Rows PySem.Spec PyProof.V
theorem dp_entry : entryFor table "dict.update.loop" = some Builtin.«dict.update.loop» := entryFor_of_tree (by kernel_rfl)
theorem dp_plain : plainId "dict.update.loop" = true := by decide +kernel
theorem dp_miss : typeLookup (.type "list") "keys" = pure none := by rw [typeLookup_type, builtinLookup_eq_fast]; kernel_rfl
section
variable {prog : Program} {w : World} {A : Around} {E : Value → Shared → Prop} {s : Shared}
/-- a list has no keys -/
theorem no_keys {a : Addr} {o : Obj} {xs : Array Value} {k : Nat} {Q : Option Value → Shared → Prop} (hx : s.heap.get? a = some o) (hc : o.cls = .type "list") (hdat : o.data = .seq xs k) (hd : o.dict = none) (hA : A.handled = none)
    (h : ∀ h' tk, (∀ b o, s.heap.get? b = some o → h'.get? b = some o) → Q none { s with heap := h', toks := tk }) :
    wpAny (model prog w) A (getAttr? (.ref a) "keys") Q E s := by
  obtain ⟨c, dct, dat, sl⟩ := o
  simp only at hc hdat hd
  subst hc hdat hd
  obtain ⟨hp, g, d, tk, os⟩ := s
  have hT : ∀ tk', (⟨hp, g, d, tk', os⟩ : Shared).TypeIs (.ref a) "list" := fun _ => ⟨_, hx, rfl⟩
  have f1 := sub_AttributeError
  have f3 := F.slot_list_getattribute.lookup
  have f4 := F.slot_list_getattribute.bind (.ref a)
  have f5 := am_list_getattr_none
  unfold getAttr? getAttrBy? getAttrBy
  repeat (any_goals (first | assumption | exact hT _ | ((with_reducible show wpAny _ _ (call (Value.builtin "list.__getattribute__") _ _) _ _ _); refine call_meets F.slot_list_getattribute (hT _) am_entry_list_getattribute (F.args_list_getattribute_2 _ _) (meets_getattribute_miss_list a xs k sl _ _ dp_miss (by decide +kernel)) ⟨hx, hA, fun h' tk' e hx' => ?_⟩) | wp_step))
  obtain ⟨t', u', he⟩ := hx'.there
  show wpAny _ _ (getattributeRaised _ _ _ _ _ _ _) _ _ _
  unfold getattributeRaised
  repeat (any_goals (first | assumption | wp_step))
  exact h _ _ hx'.keeps
end
/-- items that are made tuples of a text and a bool, each object as written -/
def PairAt (h : Heap) (v : Value) (p : Str × Bool) : Prop := ∃ a t, v = .ref a ∧ h.get? a = some (tupOf [.str p.1 t, .bool p.2])
def putAll (l : List (Str × Bool)) : List (Str × Bool) := l.foldl (fun k p => putB k p.1 p.2) []
section
variable {prog : Program} {w : World} {A : Around} {E : Value → Shared → Prop} {s : Shared}
theorem pair_items {v : Value} {p : Str × Bool} {Q : List Value → Shared → Prop} (hv : PairAt s.heap v p) (h : ∀ t, Q [.str p.1 t, .bool p.2] s) : wpAny (model prog w) A (Builtin.Dict.pairItems v) Q E s := by
  obtain ⟨a, t, rfl, ha⟩ := hv
  have hT : s.TypeIs (.ref a) "tuple" := ⟨_, ha, rfl⟩
  unfold Builtin.Dict.pairItems
  obtain ⟨hp, g, d, tk, os⟩ := s
  repeat (any_goals (first | assumption | exact h _ | wp_step))
end
section
variable {prog : Program} {w : World} {A : Around} {R : Result → Shared → Prop} {I : Addr} {fp wr : List Addr} {n : Nat} {P : Nat → Value → Prop} {St : Nat → Heap → Prop} {ps : List (Str × Bool)}
theorem dict_update_loop (W : Walks prog w A.in1 I fp wr n P St) (D : Addr) (hD : D ∉ fp) (hn : ps.length = n) (hb : n ≤ 1000) :
    ∀ (k i : Nat) (j : Int) (t : Tok) (s : Shared), n - i = k → i ≤ n → St i s.heap → (∀ (i : Nat) v, P i v → ∃ p, ps[i]? = some p ∧ ∃ a t, v = .ref a ∧ a ≠ D ∧ a ∉ wr ∧ s.heap.get? a = some (tupOf [.str p.1 t, .bool p.2])) →
      s.heap.DictOf (PySem.strKind prog w) D (kv (putAll (ps.take i))) →
      (∀ h' tk', (∀ b o, b ∉ D :: wr → s.heap.get? b = some o → h'.get? b = some o) → h'.DictOf (PySem.strKind prog w) D (kv (putAll ps)) → R (.ok (.ret .none)) { s with heap := h', toks := tk' }) →
      codeAny (model prog w) A (.builtin "dict.update.loop" ⟨[.ref D, .ref I, .int j t, .none], []⟩) R s := by
  have hDw : D ∉ wr := fun h => hD (W.sub _ h)
  intro k
  induction k with
  | zero =>
    intro i j t s hk hi hst hP hd hR
    have hin : i = n := by omega
    subst hin
    refine codeAny_builtin dp_entry ?_
    rw [Around.under_plainId dp_plain _]
    show wpAny _ A.in1 (pyNext (.ref I) >>= _) _ _ s
    refine wpAny_bind (W.done s _ _ hst fun h' tk' hm => ?_)
    show wpAny _ A.in1 (Builtin.Dict.addKeywords D [] >>= _) _ _ _
    refine wpAny_bind (wpAny_pure (wpAny_pure (hR h' tk' (fun b o hb e => hm b o (fun h => hb (.tail _ h)) e) ?_)))
    rw [← hn, List.take_length] at hd
    obtain ⟨o, es, ep, ho, rest⟩ := hd
    exact ⟨o, es, ep, hm D _ hDw ho, rest⟩
  | succ k ih =>
    intro i j t s hk hi hst hP hd hR
    have hlt : i < n := by omega
    refine codeAny_builtin dp_entry ?_
    rw [Around.under_plainId dp_plain _]
    show wpAny _ A.in1 (pyNext (.ref I) >>= _) _ _ s
    refine wpAny_bind (W.item i s _ _ hlt hst fun v h' tk' hPv hst' hm => ?_)
    obtain ⟨p, hp, a, t2, rfl, ha1, ha2, hget⟩ := hP i v hPv
    have hd' : h'.DictOf (PySem.strKind prog w) D (kv (putAll (ps.take i))) := by
      obtain ⟨o, es, ep, ho, rest⟩ := hd
      exact ⟨o, es, ep, hm D _ hDw ho, rest⟩
    have hlen : (putAll (ps.take i)).length ≤ i := by
      have : ∀ (l : List (Str × Bool)) (z : List (Str × Bool)), (l.foldl (fun k p => putB k p.1 p.2) z).length ≤ z.length + l.length := by
        intro l
        induction l with
        | nil => intro z; simp
        | cons q r ih =>
          intro z
          have h1 := ih (putB z q.1 q.2)
          have h2 := putB_len z q.1 q.2
          simp only [List.foldl_cons, List.length_cons]; omega
      have h1 := this (ps.take i) []
      simp only [List.length_nil, List.length_take] at h1
      unfold putAll; omega
    show wpAny _ A.in1 (holding [Value.ref a] _ >>= _) _ _ _
    refine wpAny_bind (wpAny_holding (wpAny_bind (wpAny_tryCatch (pair_items ⟨a, t2, rfl, hm a _ ha2 hget⟩ fun t3 => ?_))))
    refine wpAny_holding (wpAny_dictSet_pairs (knd := PySem.strKind prog w) (k := p.1) (strKind_is prog w p.1 t3) hd' (fun h'' hd'' hs => ?_) (by rw [kv_len, PySem.sizeLine_eq]; omega))
    rw [stored_kv, show putB (putAll (ps.take i)) p.1 p.2 = putAll (ps.take (i + 1)) by unfold putAll; rw [List.take_add_one, hp, List.foldl_append]; rfl] at hd''
    refine wpAny_pure ⟨plainId_quiet dp_plain _, ih (i + 1) _ _ _ (by omega) hlt (W.frame _ _ _ hst' fun b hb o e => (hs.2 b fun h => hD (h ▸ hb)).trans e) (fun i2 v2 hv2 => ?_) hd'' fun h3 tk3 hm3 hd3 => ?_⟩
    · obtain ⟨p2, hp2, a2, u2, e2, n2, n3, g2⟩ := hP i2 v2 hv2
      exact ⟨p2, hp2, a2, u2, e2, n2, n3, (hs.2 a2 n2).trans (hm a2 _ n3 g2)⟩
    · exact hR h3 tk3 (fun b o hb e => hm3 b o hb ((hs.2 b fun h => hb (h ▸ .head _)).trans (hm b o (fun h => hb (.tail _ h)) e))) hd3
end
section
variable {prog : Program} {w : World} {A : Around} {E : Value → Shared → Prop} {s : Shared} {h₀ : Heap} {L : Addr} {m : Str → Option Value} {news : List (Addr × Obj)}
theorem call_dict_pairs {l : Addr} {vs : Array Value} {nn : Nat} {ps : List (Str × Bool)} {Q : Value → Shared → Prop} (hA : A.handled = none) (hl : s.heap.get? l = some (listOf vs nn)) (hn : ps.length = vs.size) (hb : vs.size ≤ 1000)
    (hP : ∀ (i : Nat) v, vs[i]? = some v → ∃ p, ps[i]? = some p ∧ PairAt s.heap v p)
    (h : ∀ h' tk, h'.DictOf (PySem.strKind prog w) s.heap.objs.size (kv (putAll ps)) → (∀ b o, s.heap.get? b = some o → h'.get? b = some o) → Q (.ref s.heap.objs.size) { s with heap := h', toks := tk }) :
    wpAny (model prog w) A (call (.type "dict") [.ref l]) Q E s := by
  refine callType_codes (Q₁ := fun obj s₁ => obj = .ref s.heap.objs.size ∧ s₁ = { s with heap := s.heap.push { cls := .type "dict", data := .dict #[] } }) F.kt_called_dict (F.kt_typeCall_dict_1 _) F.entry_dict_init (kt_code_dict_new _ ⟨rfl, rfl⟩) ?_
  rintro obj s₁ ⟨rfl, rfl⟩
  have hnew : (s.heap.push { cls := .type "dict", data := .dict #[] }).DictOf (PySem.strKind prog w) s.heap.objs.size [] := Heap.DictOf.new s.heap
  have hl' := Heap.get?_push_of_some { cls := .type "dict", data := .dict #[] } hl
  have hlT : ({ s with heap := s.heap.push { cls := .type "dict", data := .dict #[] } } : Shared).TypeIs (.ref l) "list" := ⟨_, hl', rfl⟩
  have hll := Heap.lt_size hl
  refine ⟨hnew.typeIs, F.args_dict_init_2 _ _, ?_⟩
  unfold Builtin.«dict.__init__»
  refine wpAny_bind ?_
  unfold Builtin.Dict.selfAndRest
  refine wpAny_bind (wpAny_notOrdered_dict hnew.typeIs ?_)
  show wpAny _ _ (pure (s.heap.objs.size, [Value.ref l])) _ _ _
  refine wpAny_pure ?_
  show wpAny _ _ (Builtin.Dict.updateFrom "dict.__init__" s.heap.objs.size (.ref l) [] .none) _ _ _
  unfold Builtin.Dict.updateFrom
  refine wpAny_bind (wpAny_typeOf hlT ?_)
  rw [if_pos (by decide)]
  refine wpAny_bind (no_keys hl' rfl rfl rfl (by simp [hA]) fun h1 tk1 k1 => ?_)
  have kk : ∀ b o, s.heap.get? b = some o → h1.get? b = some o := fun b o e => k1 b o (Heap.get?_push_of_some _ e)
  have hD : h1.get? s.heap.objs.size = some { cls := .type "dict", data := .dict #[] } := k1 _ _ (Heap.get?_push_size _ rfl)
  have hL1 : h1.get? l = some (listOf vs nn) := kk _ _ hl
  have hls : h1.IsList l vs := ⟨_, hL1, rfl, nn, rfl⟩
  have hDl : s.heap.objs.size < h1.objs.size := Heap.lt_size hD
  rw [if_pos (show (none : Option Value).isNone = true from rfl)]
  refine wpAny_bind (wpAny_rule (wpAny_bind (wpAny_pyIter_list hls ?_)))
  have hdo : h1.DictOf (PySem.strKind prog w) s.heap.objs.size [] := by
    obtain ⟨o, es, ep, ho, rest⟩ := hnew
    exact ⟨o, es, ep, k1 _ _ ho, rest⟩
  refine wpAny_pure ⟨plainId_quiet dp_plain _, dict_update_loop (ps := ps) (Walks.list (by simp [hA]) h1.objs.size l (Nat.ne_of_lt (Nat.lt_trans hll hDl)) vs) s.heap.objs.size ?_ hn hb vs.size 0 _ _ _ rfl (Nat.zero_le _)
    ⟨⟨_, Heap.get?_push_size _ rfl, rfl, rfl⟩, hls.push _⟩ (fun i v hv => ?_) ?_ fun h' tk' hk hd => ⟨rfl, h h' tk' hd fun b o e => hk b o ?_ (Heap.get?_push_of_some _ (kk b o e))⟩⟩
  · simp only [List.mem_cons, List.not_mem_nil, or_false, not_or]
    exact ⟨Nat.ne_of_lt hDl, Nat.ne_of_gt hll⟩
  · obtain ⟨p, hp, a, t, rfl, ha⟩ := hP i v hv
    exact ⟨p, hp, a, t, rfl, Nat.ne_of_lt (Heap.lt_size ha), fun hm => by
      rw [List.mem_singleton] at hm
      exact absurd (Heap.lt_size (kk _ _ ha)) (hm ▸ Nat.lt_irrefl _), Heap.get?_push_of_some _ (kk _ _ ha)⟩
  · obtain ⟨o, es, ep, ho, rest⟩ := hdo
    exact ⟨o, es, ep, Heap.get?_push_of_some _ ho, rest⟩
  · simp only [List.mem_cons, List.not_mem_nil, or_false, not_or]
    exact ⟨Nat.ne_of_lt (Heap.lt_size e), Nat.ne_of_lt (Nat.lt_trans (Heap.lt_size e) hDl)⟩
/-- dict of a made list of made pairs -/
theorem call_dict_kv {l : Addr} {vs : List Value} {nn : Nat} {ps : List (Str × Bool)} {Q : Value → Shared → Prop} (hA : A.handled = none) (F : Fr h₀ L s.heap m) (N : News h₀ L s.heap news) (hl : (l, listOf vs.toArray nn) ∈ news) (hT : TupsAre news vs ps) (hb : vs.length ≤ 1000) (hbig : h₀.NoLimit)
    (h : ∀ D o h' tk, Fr h₀ L h' m → News h₀ L h' ((D, o) :: news) → (D == sysModules) = false → (∀ p ∈ news, p.1 < D) → o.IsDictOf (PySem.strKind prog w) (kv (putAll ps)) → Q (.ref D) { s with heap := h', toks := tk }) :
    wpAny (model prog w) A (call (.type "dict") [.ref l]) Q E s := by
  have hlen : vs.length = ps.length := by
    clear hl h
    induction hT with
    | nil => rfl
    | cons _ _ ih => simp only [List.length_cons]; rw [ih (by simp only [List.length_cons] at hb; omega)]
  have hat : ∀ (i : Nat) v, vs[i]? = some v → ∃ p, ps[i]? = some p ∧ PairAt s.heap v p := by
    clear hl h hb hlen
    induction hT with
    | nil => intro i v e; cases e
    | cons hm _ ih =>
      intro i v e
      cases i with
      | zero => simp only [List.getElem?_cons_zero, Option.some.injEq] at e; subst e; exact ⟨_, rfl, _, _, rfl, (N _ hm).1⟩
      | succ i => exact ih i v (by simpa using e)
  refine call_dict_pairs hA (N _ hl).1 (by rw [List.size_toArray, hlen]) (by rw [List.size_toArray]; exact hb) (fun i v e => hat i v (by simpa using e)) fun h' tk hd hk => ?_
  obtain ⟨o, ho, hdo⟩ := Heap.dictOf_iff.mp hd
  refine h s.heap.objs.size o h' tk (F.keeps hk) (fun p hp => ?_) (F.notModules (modules_low hbig)) (fun p hp => Heap.lt_size (N p hp).1) hdo
  · rcases List.mem_cons.mp hp with rfl | hp
    · exact ⟨ho, Nat.ne_of_gt F.ns.lt, none_at_size F⟩
    · exact ⟨hk _ _ (N p hp).1, (N p hp).2⟩
end

end
-- PlainLl
section
def lawFull (r p : Str) : Str := if (Txt.item p 0 == Str.ofString "/") = true then Txt.slice p (some 1) none else r ++ p
def lawPct (W : Str) : Bool := Txt.slice W (some (-1)) none == Str.ofString "%"
/-- the law's names above a name -/
def prefS (x : Str) : List Str := (List.range ((Txt.split x (Str.ofString "/")).length - 1)).map fun j => Str.join (Str.ofString "/") ((Txt.split x (Str.ofString "/")).take (j + 1))
theorem pref_next {x : Str} {i n : Nat} {ys : List Value} {t : Tok} (hS : StrsAre ys ((prefS x).take i)) (hi : i < (Txt.split x (Str.ofString "/")).length - 1) (hn : n = i + 1) :
    StrsAre (ys ++ [.str (Str.join (Str.ofString "/") ((Txt.split x (Str.ofString "/")).take n)) t]) ((prefS x).take (i + 1)) := by
  subst hn
  have e : (prefS x).take (i + 1) = (prefS x).take i ++ [Str.join (Str.ofString "/") ((Txt.split x (Str.ofString "/")).take (i + 1))] := by
    rw [List.take_add_one, show (prefS x)[i]? = some (Str.join (Str.ofString "/") ((Txt.split x (Str.ofString "/")).take (i + 1))) by unfold prefS; simp [hi]]
    rfl
  rw [e]
  exact strs_snoc hS
theorem strs_take {vs : List Value} {ys : List Str} (h : StrsAre vs ys) : ∀ n, StrsAre (vs.take n) (ys.take n) := by
  induction h with
  | nil => intro n; rw [List.take_nil, List.take_nil]; exact .nil
  | cons y t _ ih =>
    intro n
    cases n with
    | zero => exact .nil
    | succ n => exact .cons y t (ih n)
theorem pick_upto {vs : List Value} {ns : List Str} {y : Int} (hi : StrsAre vs ns) (h : 0 ≤ y) : StrsAre (slicePick vs.toArray none (some y) none).toList (ns.take y.toNat) := by
  have e : sliceBounds none (some y) none vs.toArray.size = (((0 : Nat) : Int), ((min y.toNat vs.toArray.size : Nat) : Int), 1) := by
    unfold sliceBounds; simp only [Option.getD_none, show (1 : Int) > 0 by decide, if_true, if_neg (show ¬ (y < 0) by omega)]
    refine Prod.ext rfl (Prod.ext ?_ rfl)
    obtain ⟨k, rfl⟩ := Int.eq_ofNat_of_zero_le h
    show max 0 (min (k : Int) (vs.toArray.size : Int)) = ((min k vs.toArray.size : Nat) : Int)
    rw [Int.max_eq_right (Int.le_min.mpr ⟨Int.natCast_nonneg _, Int.natCast_nonneg _⟩)]
    rcases Nat.le_total k vs.toArray.size with q | q
    · rw [Nat.min_eq_left q, Int.min_eq_left (Int.ofNat_le.mpr q)]
    · rw [Nat.min_eq_right q, Int.min_eq_right (Int.ofNat_le.mpr q)]
  rw [kmk_pick_nat _ e]
  show StrsAre ((vs.drop 0).take (min y.toNat vs.toArray.size - 0)) _
  rw [List.drop_zero, Nat.sub_zero, List.size_toArray, kmk_take_min]
  exact strs_take hi _
theorem strs_append {vs ws : List Value} {ys zs : List Str} (h : StrsAre vs ys) (h2 : StrsAre ws zs) : StrsAre (vs ++ ws) (ys ++ zs) := by
  induction h with
  | nil => exact h2
  | cons y t _ ih => exact .cons y t ih
theorem sum_le {l : List Str} {k : Nat} (h : ∀ y ∈ l, y.length ≤ k) : (l.map (·.length)).sum ≤ k * l.length := by
  induction l with
  | nil => simp
  | cons y r ih =>
    have h1 := h y (.head _)
    have h2 := ih fun z hz => h z (.tail _ hz)
    simp only [List.map_cons, List.sum_cons, List.length_cons]
    rw [Nat.mul_succ]; omega
theorem split_short (x : Str) : (Txt.split x (Str.ofString "/")).length ≤ x.length + 1 := by
  have := split_weight x (Str.ofString "/") (by decide)
  omega
def knownL (ns : List Str) (W : Str) : List Str := if lawPct W = true then ns ++ ns.flatMap prefS else ns
theorem knownL_ok {ns : List Str} (hn : ∀ x ∈ ns, x.length ≤ 50) (hl : ns.length ≤ 8) (hpar : ∀ x ∈ ns, (parentsS x).length ≤ 3 ∧ ∀ y ∈ parentsS x, y.length ≤ 50) (hpp : ∀ x ∈ ns, prefS x = parentsS x) (W : Str) :
    (knownL ns W).length ≤ 32 ∧ ∀ x ∈ knownL ns W, x.length ≤ 50 := by
  have key : ∀ l : List Str, (∀ x ∈ l, x ∈ ns) → (l.flatMap prefS).length ≤ 3 * l.length := by
    intro l
    induction l with
    | nil => intro _; simp
    | cons x r ih =>
      intro h
      have h1 := ih fun y hy => h y (.tail _ hy)
      have h2 := (hpar x (h x (.head _))).1
      rw [List.flatMap_cons, List.length_append, List.length_cons, hpp x (h x (.head _))]; omega
  have h1 := key ns fun x h => h
  unfold knownL
  split
  · refine ⟨by rw [List.length_append]; omega, fun x hx => ?_⟩
    rcases List.mem_append.mp hx with hx | hx
    · exact hn x hx
    · obtain ⟨y, hy, hx⟩ := List.mem_flatMap.mp hx
      rw [hpp y hy] at hx
      exact (hpar y hy).2 x hx
  · exact ⟨by omega, hn⟩
theorem TupsAre.len {led : Led} {vs : List Value} {ps : List (Str × Bool)} (h : TupsAre led vs ps) : vs.length = ps.length := by
  induction h with
  | nil => rfl
  | cons _ _ ih => rw [List.length_cons, List.length_cons, ih]
theorem putAll_true (l : List Str) : putAll (l.map fun x => (x, true)) = addTrue l := by
  unfold putAll addTrue
  rw [List.foldl_map]
def lawMost (x : Str) : Nat := if ((Txt.split x (Str.ofString "/")).getD 0 (Str.ofString "") == Str.ofString "INBOX") = true then 5 else 0
def resL (ns : List Str) (W : Str) (ss : List Str) : List (Str × Bool) := (ss.filter fun x => meetsN x.cps.toList (lawMost x) W.cps.toList 0).map fun x => (x, ns.any fun y => y == x)
theorem split_pos (x : Str) : 0 < (Txt.split x (Str.ofString "/")).length := by
  have := split_len x 47
  rw [← slash_is] at this
  have h2 : 0 ≤ cnt 47 x.cps.toList := by
    generalize x.cps.toList = l
    induction l with
    | nil => rw [cnt_nil]; omega
    | cons n r ih => rw [cnt_cons]; split <;> omega
  omega
theorem lawMost_5 {x y : Str} (hy : (Txt.split x (Str.ofString "/"))[0]? = some y) (h : (y == Str.ofString "INBOX") = true) : lawMost x = 5 := by
  unfold lawMost
  rw [List.getD_eq_getElem?_getD, hy, Option.getD_some, if_pos h]
theorem lawMost_0 {x y : Str} (hy : (Txt.split x (Str.ofString "/"))[0]? = some y) (h : (y == Str.ofString "INBOX") = false) : lawMost x = 0 := by
  unfold lawMost
  rw [List.getD_eq_getElem?_getD, hy, Option.getD_some, if_neg (ne_true_of_eq_false h)]
theorem resL_yes {ns : List Str} {W : Str} {ss : List Str} {i : Nat} {x : Str} (hx : ss[i]? = some x) (h : meetsN x.cps.toList (lawMost x) W.cps.toList 0 = true) : resL ns W (ss.take (i + 1)) = resL ns W (ss.take i) ++ [(x, ns.any fun y => y == x)] := by
  unfold resL
  rw [List.take_add_one, hx]
  simp [h]
theorem resL_no {ns : List Str} {W : Str} {ss : List Str} {i : Nat} {x : Str} (hx : ss[i]? = some x) (h : meetsN x.cps.toList (lawMost x) W.cps.toList 0 = false) : resL ns W (ss.take (i + 1)) = resL ns W (ss.take i) := by
  unfold resL
  rw [List.take_add_one, hx]
  simp [h]
theorem resL_len (ns : List Str) (W : Str) (ss : List Str) : (resL ns W ss).length ≤ ss.length := by
  unfold resL
  rw [List.length_map]
  exact List.length_filter_le _ _
theorem pre_fits {x : Str} (hx : x.length ≤ 50) (n : Nat) : (((Txt.split x (Str.ofString "/")).take n).map (·.length)).sum + ((Txt.split x (Str.ofString "/")).take n).length ≤ 1048576 := by
  have h1 := sum_le (l := (Txt.split x (Str.ofString "/")).take n) (k := 50) fun y hy => by
    have := part_short (List.mem_of_mem_take hy); omega
  have h2 := split_short x
  have h3 : ((Txt.split x (Str.ofString "/")).take n).length ≤ (Txt.split x (Str.ofString "/")).length := by rw [List.length_take]; omega
  have h4 : 50 * ((Txt.split x (Str.ofString "/")).take n).length ≤ 50 * 51 := Nat.mul_le_mul_left _ (by omega)
  omega
theorem pref_total (ns : List Str) (hn : ∀ x ∈ ns, x.length ≤ 50) (i : Nat) : ((ns.take i).flatMap prefS).length ≤ 50 * ns.length := by
  have key : ∀ l : List Str, (∀ x ∈ l, x.length ≤ 50) → (l.flatMap prefS).length ≤ 50 * l.length := by
    intro l
    induction l with
    | nil => intro _; simp
    | cons x r ih =>
      intro h
      have h1 := ih fun y hy => h y (.tail _ hy)
      have h2 := split_short x
      have h3 := h x (.head _)
      have h4 : (prefS x).length ≤ 50 := by unfold prefS; rw [List.length_map, List.length_range]; omega
      rw [List.flatMap_cons, List.length_append, List.length_cons, Nat.mul_succ]; omega
  have h1 := key (ns.take i) fun x hx => hn x (List.mem_of_mem_take hx)
  have h2 : (ns.take i).length ≤ ns.length := by rw [List.length_take]; omega
  have h3 := Nat.mul_le_mul_left 50 h2
  omega

end
-- F_llist
local macro_rules | `(tactic| walk_at "exec For Name Subscript cons nil") => `(tactic| (k_here; (rename Fr _ _ _ _ => lF'); (with_unfolding_all refine' For_invVF lF' ?k1 ?k2 ?_; (case k1 => exact rfl); (case k2 => exact rfl); k_whole)))
section
set_option maxHeartbeats 8000000
structure LlSt where
  D : Addr
  ws : List Value
  mm : Nat
  oc : Obj
  cv : Option Value
  ks : List Str
def LlJoin (g : Heap) (L l : Addr) (W : Str) (t : Tok) (ns : List Str) (news : Led) (s : Shared) (f : Flow) (s' : Shared) : Prop :=
  f = Flow.next ∧ ∃ D ws mm oc cv h9 tk9 u, s' = { s with heap := h9, toks := tk9 } ∧ Fr g L h9 (kstB u [(Str.ofString "names", .ref l), (Str.ofString "known", .ref D), (Str.ofString "full", .str W t)]) ∧ News g L h9 ((D, listOf ws.toArray mm) :: (L + 1, oc) :: news) ∧ oc.data = .cell cv ∧ StrsAre ws (knownL ns W) ∧ @LT.lt Nat _ (L + 1) D ∧ ∀ q ∈ news, q.1 < D
theorem fr_kst {g h : Heap} {L : Addr} {m : Str → Option Value} {ps : List (Str × Value)} (F : Fr g L h m) (e : ∀ p ∈ ps, m p.1 = some p.2) : Fr g L h (kstB m ps) := by rw [kstB_same e]; exact F
structure JoinP {α : Type} (P : α → Prop) (v : α) (s s' : Shared) (h₀ : Heap) (L : Addr) (m : Str → Option Value) (news : Led) : Prop where
  is : P v
  at' : ∃ h9 tk9, s' = { s with heap := h9, toks := tk9 } ∧ Fr h₀ L h9 m ∧ News h₀ L h9 news
theorem join_val {M : Model} {A : Around} {α : Type} {tr : Sem α} {Q : α → Shared → Prop} {E : Value → Shared → Prop} {s : Shared} {h₀ : Heap} {L : Addr} {m : Str → Option Value} {news : Led} (P : α → Prop) (_F : Fr h₀ L s.heap m) (_N : News h₀ L s.heap news)
    (h1 : wpAny M A tr (fun v s' => JoinP P v s s' h₀ L m news) E s)
    (h2 : ∀ v h9 tk9, P v → Fr h₀ L h9 m → News h₀ L h9 news → Q v { s with heap := h9, toks := tk9 }) : wpAny M A tr Q E s :=
  wpAny_mono h1 (fun v s' ⟨hp, h9, tk9, e, F, N⟩ => by subst e; exact h2 v h9 tk9 hp F N) fun _ _ e => e
theorem join_end {α : Type} {s s' : Shared} {h₀ : Heap} {L : Addr} {m : Str → Option Value} {news : Led} {P : α → Prop} {v : α} {h9 : Heap} {tk9 : Nat} (hp : P v) (F : Fr h₀ L h9 m) (N : News h₀ L h9 news) (e : s' = { s with heap := h9, toks := tk9 }) :
    JoinP P v s s' h₀ L m news := ⟨hp, h9, tk9, e, F, N⟩
structure DuSt where
  tl : Led
  ws : List Value
  mm : Nat
  un : List Nat
theorem item_strL {prog : Program} {w : World} {A : Around} {E : Value → Shared → Prop} {s : Shared} {value slice : Expr} {l : Addr} {vs : List Value} {u : Tok} {x : Value} {Q : Value → Shared → Prop} (hl : s.heap.IsList l vs.toArray) (hx : vs[0]? = some x) (h : Q x s)
    (hs : subscripted slice false (.ref l) (.int 0 u) = operate [.ref l, .int 0 u] (getItem (.ref l) (.int 0 u)) := by with_unfolding_all rfl) : wpAny (model prog w) A (subscriptTail value slice (.ref l) (.int 0 u)) Q E s :=
  tail_any hl.typeIs slot_list_getitem.lookup (wpAny_getItem_list (x := x) hl (by decide) (by decide) (by simpa using hx) h) hs
section
variable {prog : Program} {w : World} {A : Around} {E : Value → Shared → Prop} {s : Shared} {h₀ : Heap} {L : Addr} {m : Str → Option Value} {news : List (Addr × Obj)} {x y : Str} {t u : Tok} {Q : Value → Shared → Prop}
theorem split_list (hF : Fr h₀ L s.heap m) (hN : News h₀ L s.heap news) (hy : (y.length == 0) = false) (hsz : x.length ≤ 1000)
    (h : ∀ D ws h' k, StrsAre ws (Txt.split x y) → Fr h₀ L h' m → News h₀ L h' ((D, listOf ws.toArray 0) :: news) → (∀ p ∈ news, p.1 < D) → Q (.ref D) { s with heap := h', toks := k }) :
    wpAny (model prog w) A (call (.builtin "str.split") [.str x t, .str y u]) Q E s :=
  KSpl.split1 hF hN hy (fun D l h' k e a F N lt => h D _ h' k (e ▸ a) F N lt) (by rw [PySem.sizeLine_eq]; omega)
end
section
local macro_rules | `(tactic| walk_at "call builtin:str.split") => `(tactic| (k_here; (with_reducible show wpAny _ _ (call (Value.builtin "str.split") _) _ _ _); k_dflt (refine' split_list ?F ?N ?y ?z ?_; (case F => k_asm); (case N => k_asm); (case y => decide); (case z => omega); k_whole); intro D' ws' h' k' a' F' N' l1; (try k_lt l1)))
local macro_rules | `(tactic| walk_at "call type:list") => `(tactic| (k_here; (with_reducible show wpAny _ _ (call (Value.type _) [Value.ref _]) _ _ _); (with_unfolding_all refine' list_copyK ?k1 ?k2 (News.isList ?k4 ?k3) ?_ ?z; (case k1 => k_asm); (case k2 => k_asm); (case k4 => k_asm); (case k3 => k_mem); (case z => rw [PySem.sizeLine_eq, List.size_toArray]; omega); k_whole); intro D' c' h' F' N' l1; (try k_lt l1); (try k_sweep)))
local macro_rules | `(tactic| walk_at "subscriptTail") => `(tactic| (k_here; (with_reducible show wpAny _ _ (subscriptTail _ _ (Value.ref _) (Value.int _ _)) _ _ _); refine hold ?_))
local macro_rules | `(tactic| walk_at "call builtin:list.append") => `(tactic| (k_here; refine hold ?_))
local macro_rules | `(tactic| walk_at "call builtin:str.join") => `(tactic| (k_here; refine hold ?_))
local macro_rules | `(tactic| walk_at "binaryOp Add ref ref") => `(tactic| (k_here; refine hold ?_))
local macro_rules | `(tactic| walk_at "CompSrc") => `(tactic| (k_here; refine hold ?_))
local macro_rules | `(tactic| walk_at "eval ListComp") => `(tactic| (k_here; refine hold ?_))
local macro_rules | `(tactic| walk_at "eval IfExp") => `(tactic| (k_here; refine hold ?_))
local macro_rules | `(tactic| walk_at "exec If") => `(tactic| (k_here; (with_reducible show wpAny _ _ (exec (Stmt.If (Expr.Compare (Expr.Subscript _ (Expr.Slice _ _ _ _) _) _ _ _) _ _ _) _) _ _ _); refine hold ?_))
local macro_rules | `(tactic| walk_at "eval Name") => `(tactic| (k_here; (with_reducible show wpAny _ _ (eval (Expr.Name _ _) (compEnvC _ _ _ _)) _ _ _); k_dflt (first
  | (refine' LCgL.ld_own ?N ?m ?c ?x ?_ ?a ?b ?d; (case d => decide); (case a => exact rfl); (case b => exact rfl); (case N => k_asm); (case m => k_mem); (case c => with_reducible assumption); (case x => with_reducible assumption); k_whole)
  | (refine' kcf_cell ?N ?c ?m ?v ?_ ?a ?b ?d; (case d => decide); (case a => exact rfl); (case b => exact rfl); (case N => k_asm); (case c => exact rfl); (case m => k_mem); (case v => with_reducible assumption); k_whole))))
local macro_rules | `(tactic| walk_at "call ref") => `(tactic| (k_here; (with_reducible show wpAny _ _ (call (Value.ref 262) _) _ _ _); k_dflt (refine' useB (c_meets _ _ _ _ _ _ (lawMost _) _ ?hn _ _ 0 _ _ rfl ?hp ?hi) ?k1 ?k2 ?k3 ?k4 ?k5 ?kK ?kd ?ku ?kp ?_); walk_at "mine ctx"; (case kp => trivial); (case hn => omega); (case hp => omega); (case hi => omega); intro t9 h9 tk9 F9 N9; (try dsimp only)))
theorem c_law_list (w : World) (mean mg mb) (l : Addr) (vs : List Value) (nn : Nat) (ns : List Str) (r p : Str) (t t' : Tok) (hS : StrsAre vs ns) (hn : ∀ x ∈ ns, x.length ≤ 50) (hl : ns.length ≤ 8) (hpar : ∀ x ∈ ns, (parentsS x).length ≤ 3 ∧ ∀ y ∈ parentsS x, y.length ≤ 50) (hpp : ∀ x ∈ ns, prefS x = parentsS x) (hr : r.length ≤ 90) (hp : p.length ≤ 90) :
    ConN w mean mg mb 267 300 3000 (fun news => (l, listOf vs.toArray nn) ∈ news) [.ref l, .str r t, .str p t']
      (fun v tl => ∃ ss, (p.cps.toList = [] → ss = []) ∧ (p.cps.toList ≠ [] → ss.Perm ((addTrue (knownL ns (lawFull r p))).map (·.1)) ∧ sortedS ss = true) ∧ ListingOf (resL ns (lawFull r p) ss) v tl) := by
  try unfold ConS
  try unfold ConB
  try unfold ConI
  try unfold ConO
  unfold ConN
  k_fill
  intro dp un gd cn cs a ccd cl outer A₀ base h₀ L m news s Q E B F X N T hk hd hu hm hret
  refine wpAny_call ?_
  k_dflt (refine' code_defC ?k1 ?k2 ?k3 ?k4 ?k5 ?kA ?kF ?kK ?k6 ?k7 ?k8 ?k9 ?kB ?kD ?_ ?c2 ?c3 ?c4; (case kA => exact rfl); (case kF => exact rfl); (case kK => assumption); (case k1 => k_asm); (case k2 => k_asm); (case k3 => k_asm); (case k4 => k_asm); (case k5 => k_asm); (case k6 => k_is); (case k7 => k_is); (case k8 => ktr_room); (case k9 => exact BindsTo.of_eq rfl); (case kB => exact rfl); (case kD => decide +kernel); (case c2 => exact rfl); (case c3 => exact rfl); (case c4 => exact rfl); k_whole; intro g' L' h' tk' cells' FG' F' N' Y' B' X' T' l1; (try k_lt l1); k_cells Y'; (try simp only [List.cons_append, List.nil_append] at N'); (try dsimp only); (try k_fold))
  have hc1 : ∀ p ∈ news, p.1 < L' + 1 := fun p hp => Nat.lt_succ_of_lt (l1 p hp)
  have hvl := hS.length
  have hwl : (lawFull r p).length ≤ 180 := by
    unfold lawFull; split
    · have := PyProof.Txt.length_slice_le p (some 1) none; omega
    · rw [Str.length_append]; omega
  k_steps
  · rename_i hpe l9 h9 F9 N9 lt9 kF kN Tc kX
    exact hret _ [(l9, listOf #[] 0)] _ _ kF (fun p hp => (List.mem_cons.mp hp).elim (fun e => kN p (e ▸ .head _)) fun h => kN p (.tail _ (.tail _ h))) ⟨[], fun _ => rfl, fun h => absurd (eq_empty hpe) h, l9, [], _, rfl, .head _, .nil⟩
  have hpn : ¬ p.cps.toList = [] := by
    obtain ⟨a1, q, e1⟩ := ne_empty (p := p) (by assumption)
    rw [e1]; exact List.cons_ne_nil _ _
  unfold Hold
  rename Fr _ _ _ _ => FF; rename News _ _ _ _ => NN
  refine join_val (fun v => ∃ t9, v = .str (lawFull r p) t9) FF NN ?_ ?_
  · with_reducible refine IfExp_ ?_
    k_steps
    · exact join_end ⟨_, by unfold lawFull; rw [if_pos (by assumption)]⟩ (by assumption) (by assumption) rfl
    · exact join_end ⟨_, by unfold lawFull; rw [if_neg (ne_true_of_eq_false (by assumption))]⟩ (by assumption) (by assumption) rfl
  clear FF NN
  rintro v h0 tk0 ⟨t9, rfl⟩ F0 N0
  k_steps
  unfold Hold
  rename_i oC dC hpe tk00 h1 D1 c1 h2 l2 h3 F3 N3
  have lc : @LT.lt Nat _ (L' + 1) D1 := l2.1
  have ld := ktn_ltOf l2.2
  refine wpAny_mono (Q := LlJoin g' L' l (lawFull r p) t9 ns news s) ?_ (fun f s' hj => ?_) (fun _ _ e => e)
  · refine wpAny_If ?_
    k_steps
    · unfold Hold
      have hpc : lawPct (lawFull r p) = true := by assumption
      refine for_list (σ := LlSt) (L := L') (fun c => (c.D, listOf c.ws.toArray c.mm) :: (L' + 1, c.oc) :: news) (fun c => [(Str.ofString "names", .ref l), (Str.ofString "known", .ref c.D), (Str.ofString "full", .str (lawFull r p) t9)])
        (fun i c => c.oc.data = .cell c.cv ∧ c.ks = ns ++ (ns.take i).flatMap prefS ∧ StrsAre c.ws c.ks ∧ (∀ q ∈ news, q.1 < c.D) ∧ @LT.lt Nat _ (L' + 1) c.D) ⟨D1, vs, c1, oC, none, ns⟩ (by rfl) (by rfl) (fun _ _ _ => .tail _ (.tail _ hm)) (by assumption) (by assumption) (by kst_all) ⟨by assumption, by simp, hS, ld, lc⟩ ?_ ?_
      · rintro i v ⟨D2, ws2, mm2, oc2, cv2, ks2⟩ u I oI h tk hv ⟨hoc, hks, hw2, hld2, hlc2⟩ hlt hne F2 N2
        obtain ⟨x, tx, hx, rfl⟩ := str_item hS hv
        dsimp only at hoc hks hw2 hld2 hlc2 hne F2 N2
        have hx5 := hn x (List.mem_of_getElem? hx)
        have hw2l : ws2.length ≤ 500 := by
          rw [hw2.length, hks, List.length_append]
          have := pref_total ns hn i
          omega
        have hDI : @Ne Nat D2 I := hne _ (.head _)
        have hcI : @Ne Nat (L' + 1) I := hne _ (.tail _ (.head _))
        k_steps
        unfold Hold
        rename_i D3 ws3 h3' k3 S3 l3 h4 o3 F3 N3 d3
        have hsl := split_short x
        have hw3 := S3.length
        have l3I : @LT.lt Nat _ I D3 := l3.1
        have l3D : @LT.lt Nat _ D2 D3 := l3.2.1
        have l3c : @LT.lt Nat _ (L' + 1) D3 := l3.2.2.1
        have l3n := ktn_ltOf l3.2.2.2
        k_dflt (refine LCg.ListComp_U (F₀ := by k_asm) (by with_unfolding_all rfl) (by decide) (by rfl) (by decide) (by rfl) ?_)
        k_steps
        unfold Hold
        rename_i R5 F5 N5 K5
        k_dflt (refine LCg.CompSrc.range (n := (((Txt.split x (Str.ofString "/")).length : Int) - 1).toNat) (by rfl) F5 N5 R5 (small_one (by omega) (by omega) (by omega) (by omega)) (by exact rangeSize_nat _ _) (by rw [PySem.sizeLine_eq]; omega) ?_)
        intro g6
        refine rest_inv (fun i ys nw => nw = (D3, listOf ws3.toArray 0) :: (I, oI) :: (D2, listOf ws2.toArray mm2) :: (L' + 1, o3) :: news ∧ StrsAre ys ((prefS x).take i)) ⟨rfl, .nil⟩ ?_ ?_
        · rintro i6 v I6 oI6 C6 oC6 D6 m6 ys nw h6 tk6 E6 hi6 ⟨tv, rfl⟩ ⟨rfl, hS6⟩ hC6 hx6 F6 N6 off6 ne6
          k_steps
          unfold Hold
          rename_i F7 N7
          refine join_listW (News.isList N7 (.head _)) (pick_upto (y := 1 + (i6 : Int)) (by assumption) (by omega)) (by decide) (pre_fits hx5 _) ?_
          intro t8 k8
          rw [show Txt.join (Str.ofString "/") _ = _ from StrLaws.glued_eq_join _ _]
          k_steps
          exact LCg.CompEnd.intro F7 N7 _ (fun _ hp => .tail _ hp) off6 trivial ⟨rfl, pref_next hS6 (by omega) (by omega)⟩
        · rintro ys nw ⟨rfl, hS6⟩
          k_steps
          unfold Hold
          rename_i D8 h8 tk8 F8 N8 o8
          have hys : StrsAre ys (prefS x) := by rw [List.take_of_length_le (by unfold prefS; rw [List.length_map, List.length_range]; omega)] at hS6; exact hS6
          have hyl := hys.length
          have hpl : (prefS x).length ≤ 50 := by unfold prefS; rw [List.length_map, List.length_range]; omega
          refine kmk_add_lit F8 N8 (News.isList N8 (.tail _ (.tail _ (.tail _ (.head _))))) (News.isList N8 (.head _)) rfl ?_ (by rw [PySem.sizeLine_eq]; show ws2.length + ys.length ≤ _; omega)
          intro D9 h9 F9 N9 l9
          have hD9 : @Ne Nat D9 I := Nat.ne_of_gt (l9 (I, oI) (.tail _ (.tail _ (.head _))))
          k_steps
          rename_i F10 N10
          refine ForNext.intro ⟨D9, ws2 ++ ys, 0, o3, some (.ref D3), ks2 ++ prefS x⟩ F10 N10 (fun p hp => by simp only [List.mem_cons] at hp ⊢; rcases hp with h | h | h | h <;> simp [h]) (fun p hp => ?_) (by kst_all) ⟨d3, ?_, strs_append hw2 hys, fun q hq => l9 q (.tail _ (.tail _ (.tail _ (.tail _ (.tail _ hq))))), l9 (L' + 1, o3) (.tail _ (.tail _ (.tail _ (.tail _ (.head _)))))⟩
          · rcases List.mem_cons.mp hp with rfl | hp
            · exact hD9
            · rcases List.mem_cons.mp hp with rfl | hp
              · exact hcI
              · exact hne p (.tail _ (.tail _ hp))
          · dsimp only
            rw [hks, List.take_add_one, hx, List.flatMap_append, List.append_assoc]; simp
      · rintro ⟨D2, ws2, mm2, oc2, cv2, ks2⟩ u h tk ⟨hoc, hks, hw2, hld2, hlc2⟩ F2 N2
        dsimp only at hoc hks hw2 hld2 hlc2 F2 N2
        k_steps
        exact ⟨rfl, D2, ws2, mm2, oc2, cv2, _, _, u, rfl, F2, N2, hoc, by rw [hks] at hw2; unfold knownL; rw [if_pos hpc]; rw [List.size_toArray, hvl, List.take_length] at hw2; exact hw2, hlc2, hld2⟩
    · rename Fr _ _ _ _ => FZ
      refine ⟨rfl, D1, vs, c1, oC, none, _, _, _, rfl, fr_kst FZ (by kst_all), by assumption, by assumption, ?_, lc, ld⟩
      unfold knownL lawPct
      rw [if_neg (ne_true_of_eq_false (by assumption))]
      exact hS
  obtain ⟨rfl, D, ws, mm, oc, cv, h9, tk9, u, rfl, F9, N9, hoc, hw, hlc, hld⟩ := hj
  dsimp only
  have hks5 := knownL_ok hn hl hpar hpp (lawFull r p)
  have hwn := hw.length
  k_steps
  unfold Hold
  rename_i D1u h1u l1u hh F1 N1
  k_dflt (refine LCg.ListComp_U (F₀ := by k_asm) (by with_unfolding_all rfl) (by decide) (by rfl) (by decide) (by rfl) ?_)
  k_steps
  unfold Hold
  k_dflt (refine LCg.CompSrc.ledger (by rfl) (by k_asm) N1 (.tail _ (.head _)) (by rw [PySem.sizeLine_eq, List.size_toArray]; omega) ?_)
  intro g2
  refine rest_inv (fun i ys nw => (∀ q ∈ (D1u, listOf #[] 0) :: (D, listOf ws.toArray mm) :: (L' + 1, oc) :: news, q ∈ nw) ∧ TupsAre nw ys (((knownL ns (lawFull r p)).take i).map fun x => (x, true))) ⟨fun _ h => h, .nil⟩ ?_ ?_
  · rintro i v I oI C oC D7 m₂ ys nw h7 tk7 E' hi7 hv7 ⟨hnw, hT⟩ hC hx7 F7 N7 off ne
    obtain ⟨x, tx, hx, rfl⟩ := str_item hw hv7
    k_steps
    rename Fr _ _ _ _ => F10
    rename News _ _ _ _ => N10
    rename_i l10
    exact LCg.CompEnd.intro F10 N10 _ (sub_tup _ _ _ _ _) ⟨⟨Nat.ne_of_gt l10.1, Nat.ne_of_gt l10.2.1, Nat.ne_of_gt l10.2.2.1⟩, off⟩ (.inr ⟨_, .tail _ (hnw _ (.tail _ (.head _))), rfl, _, rfl⟩)
      ⟨fun q hq => .tail _ (hnw q hq), by rw [List.take_add_one, hx, List.map_append]; exact TupsAre.snoc (hT.mono fun _ hp => .tail _ hp) (.head _)⟩
  · rintro ys nw ⟨hnw, hT⟩
    k_steps
    rename_i D11 h11 tk11 F11 N11 o11
    have hT2 : TupsAre ((D11, LCg.lst ys) :: nw) ys ((knownL ns (lawFull r p)).map fun x => (x, true)) := by
      rw [List.size_toArray, hwn, List.take_length] at hT
      exact hT.mono fun _ hp => .tail _ hp
    have hyl : ys.length = (knownL ns (lawFull r p)).length := by
      rw [hT2.len, List.length_map]
    refine call_dict_kv (by rfl) F11 N11 (.head _) hT2 (by omega) (TopRead.nolimit (by k_asm)) ?_
    intro D12 o12 h12 tk12 F12 N12 lo12 l12 hd12
    k_steps
    have hpl := putAll_true (knownL ns (lawFull r p))
    rw [hpl] at hd12
    have hlt12 := addTrue_len (knownL ns (lawFull r p)) []
    simp only [List.length_nil] at hlt12
    refine sorted_dict lo12 (by rfl) F12 N12 (.head _) hd12 (by rw [kv_len]; unfold addTrue; omega) ?_
    intro D13 h13 tk13 vs13 ss13 e13 F13 N13 l13 S13 P13 O13
    rw [kv_keys] at P13
    k_steps
    unfold Hold
    have hvn13 := S13.length
    have hln13 := P13.length_eq
    rw [List.length_map] at hln13
    refine for_list (σ := DuSt) (L := L') (fun c => (D1u, listOf c.ws.toArray c.mm) :: (c.tl ++ (D13, listOf vs13.toArray e13) :: (D, listOf ws.toArray mm) :: (L' + 1, oc) :: news)) (fun _ => [(Str.ofString "names", .ref l), (Str.ofString "due", .ref D1u), (Str.ofString "full", .str (lawFull r p) t9)])
        (fun i c => TupsAre c.tl c.ws (resL ns (lawFull r p) (ss13.take i)) ∧ ∀ q ∈ c.tl, q.1 ≠ D1u) ⟨[], [], 0, []⟩ (by rfl) (by rfl) (fun _ _ _ => .tail _ (List.mem_append_right _ (.head _))) F13 (fun q hq => N13 q ?_) (by kst_all) ⟨.nil, fun _ h => nomatch h⟩ ?_ ?_
    · rcases List.mem_cons.mp hq with rfl | hq
      · exact .tail _ (.tail _ (.tail _ (hnw _ (.head _))))
      · rcases List.mem_cons.mp hq with rfl | hq
        · exact .head _
        · exact .tail _ (.tail _ (.tail _ (hnw _ (.tail _ hq))))
    · rintro i v ⟨tl, ws14, mm14, un14⟩ u I oI h tk hv ⟨hT14, hne14⟩ hlt hne F14 N14
      obtain ⟨x, tx, hx, rfl⟩ := str_item S13 hv
      dsimp only at hT14 hne14 hne F14 N14
      have hxk : x ∈ knownL ns (lawFull r p) := by
        have := P13.mem_iff.mp (List.mem_of_getElem? hx)
        rcases addTrue_keys _ _ _ this with h | h
        · exact h
        · cases h
      have hx5 := hks5.2 x hxk
      have hdI : @Ne Nat D1u I := hne _ (.head _)
      k_steps
      unfold Hold
      rename Fr _ _ _ _ => FF; rename News _ _ _ _ => NN
      refine join_val (fun v => ∃ t9, v = .int ((lawMost x : Nat) : Int) t9) FF NN ?_ ?_
      · with_reducible refine IfExp_ ?_
        k_steps
        unfold Hold
        rename StrsAre _ (Txt.split _ _) => S15
        rename News _ _ _ _ => N15
        have hpos := split_pos x
        obtain ⟨y15, hy15⟩ : ∃ y, (Txt.split x (Str.ofString "/"))[0]? = some y := ⟨_, List.getElem?_eq_getElem hpos⟩
        obtain ⟨t15, hv15⟩ := S15.at hy15
        refine item_strL (News.isList N15 (.head _)) hv15 ?_
        rename Fr _ _ _ _ => F15
        have N16 := cb_drop N15 fun _ hp => .tail _ hp
        k_steps
        · exact join_end ⟨_, by rw [lawMost_5 hy15 (by assumption)]; rfl⟩ F15 N16 rfl
        · exact join_end ⟨_, by rw [lawMost_0 hy15 (by assumption)]; rfl⟩ F15 N16 rfl
      clear FF NN
      rintro v h0 tk0 ⟨t10, rfl⟩ F0 N0
      have hm5 : ((lawMost x : Nat) : Int) ≤ 5 := by unfold lawMost; split <;> decide
      k_steps
      · rename_i F16 N16 hy16
        refine in_list_strs (News.isList N16 (.tail _ (.tail _ (List.mem_append_right _ (.tail _ (.tail _ (.tail _ hm))))))) hS ?_
        k_steps
        unfold Hold
        rename_i D16 h16 F17 N17 l17
        have hrest : ∀ q ∈ tl ++ (D13, listOf vs13.toArray e13) :: (D, listOf ws.toArray mm) :: (L' + 1, oc) :: news, q.1 ≠ D1u := by
          intro q hq
          rcases List.mem_append.mp hq with hq | hq
          · exact hne14 q hq
          · rcases List.mem_cons.mp hq with rfl | hq
            · exact Nat.ne_of_gt (l13 (D1u, _) (.tail _ (.tail _ (hnw _ (.head _)))))
            · rcases List.mem_cons.mp hq with rfl | hq
              · exact Nat.ne_of_lt l1u.1
              · rcases List.mem_cons.mp hq with rfl | hq
                · exact Nat.ne_of_lt l1u.2.1
                · exact Nat.ne_of_lt (ktn_ltOf l1u.2.2 q hq)
        have hwl14 : ws14.length ≤ 64 := by
          rw [hT14.len]
          have := resL_len ns (lawFull r p) (ss13.take i)
          rw [List.length_take] at this
          unfold addTrue at hln13
          omega
        refine append_K F17 N17 (.tail (Nat.ne_of_gt l17.2.1) (.tail (Ne.symm hdI) (.head hrest))) ?_ (by rw [PySem.sizeLine_eq, List.size_toArray]; omega)
        intro h18 F18 N18
        simp only [List.push_toArray] at N18
        k_steps
        refine ForNext.intro ⟨(D16, tupOf [.str x tx, .bool (ns.any fun y => y == x)]) :: tl, ws14 ++ [.ref D16], mm14 + 1, []⟩ F18 N18 (fun q hq => ?_) (fun q hq => ?_) (by kst_all) ⟨by dsimp only; rw [resL_yes hx hy16]; exact (hT14.mono fun _ hp => .tail _ hp).snoc (.head _), fun q hq => ?_⟩
        · dsimp only at hq
          simp only [List.mem_cons, List.mem_append, List.cons_append] at hq ⊢
          rcases hq with h | h | h | h | h | h | h | h <;> simp [h]
        · rcases List.mem_cons.mp hq with rfl | hq
          · exact hdI
          · rcases List.mem_cons.mp hq with rfl | hq
            · exact Nat.ne_of_gt l17.1
            · exact hne q (.tail _ hq)
        · rcases List.mem_cons.mp hq with rfl | hq
          · exact Nat.ne_of_gt l17.2.1
          · exact hne14 q hq
      · rename_i F16 N16 hy16
        exact ForNext.intro ⟨tl, ws14, mm14, []⟩ F16 N16 (fun _ h => h) hne (by kst_all) ⟨by dsimp only; rw [resL_no hx (by assumption)]; exact hT14, hne14⟩
    · rintro ⟨tl, ws14, mm14, un14⟩ u h tk ⟨hT14, hne14⟩ F14 N14
      dsimp only at hT14 hne14 F14 N14
      k_steps
      rename_i kF kN Tc kX
      rw [List.size_toArray, hvn13, List.take_length] at hT14
      refine hret _ ((D1u, listOf ws14.toArray mm14) :: tl) _ _ kF (fun q hq => kN q ?_) ⟨ss13, fun e => absurd e hpn, fun _ => ⟨P13, O13⟩, D1u, ws14, _, rfl, .head _, hT14.mono fun _ hp => .tail _ hp⟩
      rcases List.mem_append.mp hq with hq | hq
      · rcases List.mem_cons.mp hq with rfl | hq
        · exact .head _
        · exact .tail _ (List.mem_append_left _ hq)
      · exact .tail _ (List.mem_append_right _ (.tail _ (.tail _ (.tail _ hq))))
end

end
-- Exc1
section
section
variable {M : Model} {A : Around} {E : Value → Shared → Prop} {h : Heap} {g : Array GenState} {d : Drawn} {t : Nat} {os : OsState}
variable {nm q : Str} {C N : Addr} {bs bm : List Value} {hdct : Bool} {sn : List Str} {sub : List Value} {ab : Bool} {col : Option Bool} {dd : Option Addr} {k0 k1 k2 k3 k5 : Option Value} {B newId initId : String} {bmB : List Value}
theorem chk_new (F : ExcBaseFacts B newId initId bmB) (hB : bm.contains (.type B) = true) {rest : List Value} {Q : Unit → Shared → Prop} (hC : h.get? C = some (excClassObj nm q C N bs bm hdct sn sub ab col dd k0 k1 k2 k3 k5 newId))
    (hq : Q () ⟨h, g, d, t, os⟩) : wpAny M A (checkBuiltinCall newId ⟨.ref C :: rest, []⟩) Q E ⟨h, g, d, t, os⟩ := by
  have hc : (Value.ref C :: bm).contains (.type B) = true := by rw [List.contains_cons, hB, Bool.or_true]
  have hs := F.noStar
  simp only [checkBuiltinCall, F.newKind, F.newSplit, F.newRow]
  repeat (first | refine wpAny_loadPart_at hC ?_ | (refine wpAny_isSubtype_exc hC ?_; rw [hc]) | refine wpAny_staticBase_exc hC ?_ | refine wpAny_madeBy_exc hC ?_ | simp only [bne_self_eq_false, Bool.false_eq_true, if_false] | wp_step)
  exact hq
end
section
variable {prog : Program} {w : World} {A : Around} {R : Result → Shared → Prop} {h : Heap} {g : Array GenState} {d : Drawn} {t : Nat} {os : OsState}
variable {nm q : Str} {C N : Addr} {bs bm bmB : List Value} {hdct : Bool} {sn : List Str} {sub : List Value} {ab : Bool} {col : Option Bool} {dd : Option Addr} {k0 k1 k2 k3 k5 : Option Value} {B newId initId : String}
theorem exc_new (F : ExcBaseFacts B newId initId bmB) (hB : bm.contains (.type B) = true) (hA : bm.contains (.type "AttributeError") = false) (hN : bm.contains (.type "NameError") = false) {rest : List Value}
    (hC : h.get? C = some (excClassObj nm q C N bs bm hdct sn sub ab col dd k0 k1 k2 k3 k5 newId))
    (hq : R (.ok (.ret (.ref (h.objs.size + 1)))) ⟨(h.push { cls := .type "tuple", data := .seq rest.toArray }).push
      { cls := .ref C, data := .fields #[.ref h.objs.size, .none, .none, .none, .bool false, .none] }, g, d, t, os⟩) (hrest : rest.length ≤ sizeLine) :
    codeAny (model prog w) A (.builtin newId ⟨.ref C :: rest, []⟩) R ⟨h, g, d, t, os⟩ := by
  have hends := F.ends
  have hcB : (Value.ref C :: bm).contains (.type B) = true := by rw [List.contains_cons, hB, Bool.or_true]
  have hcA : (Value.ref C :: bm).contains (.type "AttributeError") = false := by rw [List.contains_cons, hA]; rfl
  have hcN : (Value.ref C :: bm).contains (.type "NameError") = false := by rw [List.contains_cons, hN]; rfl
  refine codeAny_builtinAt F.entry ?_
  unfold Builtin.«BaseException.__new__»
  refine PySem.wpAt_bind ?_
  show PySem.wpAt _ _ _ (stack >>= _) _ _ _
  refine PySem.wpAt_bind (PySem.wpAt_stack fun p below => PySem.wpAt_of_wpAny ?_)
  wp_walk
  refine PySem.wpAt_of_wpAny ?_
  rw [F.owner]
  repeat (first | with_reducible refine wpAny_madeHere_exc F.canon hC ?_ | with_reducible refine wpAny_loadPart_at hC ?_ | (with_reducible refine wpAny_isSubtype_exc hC ?_; first | rw [hcB] | rw [hcA] | rw [hcN]) | wp_step)
  show R _ _
  rw [Heap.size_push]
  exact hq
end
section
variable {prog : Program} {w : World} {A : Around} {E : Value → Shared → Prop} {h : Heap} {g : Array GenState} {d : Drawn} {t : Nat} {os : OsState}
variable {nm q : Str} {C N : Addr} {bs bm bmB : List Value} {hdct : Bool} {sn : List Str} {sub : List Value} {ab : Bool} {col : Option Bool} {dd : Option Addr} {k0 k1 k2 k3 k5 : Option Value} {B newId initId : String}
/-- a class whose __init__ stands in its own base -/
theorem type_call_nf (F : ExcBaseFacts B newId initId bmB) (hB : bm.contains (.type B) = true) (hA : bm.contains (.type "AttributeError") = false) (hN : bm.contains (.type "NameError") = false) {rest : List Value} {fI : Addr} {oI : Obj} {Q : Fin → Shared → Prop}
    (hC : h.get? C = some (excClassObj nm q C N bs bm hdct sn sub ab col dd k0 k1 k2 k3 k5 newId))
    (hl : ∀ (h' : Heap) (Q : Option Value → Shared → Prop), (∀ b o, h.get? b = some o → h'.get? b = some o) → Q (some (.ref fI)) ⟨h', g, d, t, os⟩ → wpAny (model prog w) A (typeLookup (.ref C) "__init__") Q E ⟨h', g, d, t, os⟩)
    (hfI : h.get? fI = some oI) (hfc : oI.cls = .type "function")
    (hq : ∀ h' e, Heap.MadeExcOf h h' e (.ref C) rest →
      wpAny (model prog w) A (call (.ref fI) (.ref e :: rest)) (fun r s' => r = .none ∧ Q (.done (.ret (.ref e))) s') E ⟨h', g, d, t, os⟩) (hrest : rest.length ≤ sizeLine) :
    wpAny (model prog w) A (Builtin.«type.__call__» ⟨.ref C :: rest, []⟩) Q E ⟨h, g, d, t, os⟩ := by
  repeat (first | with_reducible refine wpAny_loadPart_at hC ?_ | with_reducible refine wpAny_madeBy_exc hC ?_ | wp_step)
  refine codeAny_call_builtin_code (Code.quiet_builtin _ F.quiet) (chk_new F hB hC ?_)
  refine exc_new F hB hA hN hC ?_ hrest
  show wpAny _ _ _ _ _ _
  have k2 : ∀ b o, h.get? b = some o → ((h.push { cls := .type "tuple", data := .seq rest.toArray }).push { cls := .ref C, data := .fields #[.ref h.objs.size, .none, .none, .none, .bool false, .none] }).get? b = some o :=
    fun b o e => Heap.get?_push_of_some _ (Heap.get?_push_of_some _ e)
  have hC₁ := k2 _ _ hC
  have hfI₁ := k2 _ _ hfI
  have hget : ((h.push { cls := .type "tuple", data := .seq rest.toArray }).push
      { cls := .ref C, data := .fields #[.ref h.objs.size, .none, .none, .none, .bool false, .none] }).get? (h.objs.size + 1) = some
      { cls := .ref C, data := .fields #[.ref h.objs.size, .none, .none, .none, .bool false, .none] } := by heap_get
  have hcC : (Value.ref C :: bm).contains (.ref C) = true := by simp
  unfold isInstance
  repeat (first | with_reducible refine wpAny_loadPart_at hget ?_ | (with_reducible refine wpAny_isSubtype_exc hC₁ ?_; rw [hcC]) | wp_step)
  show wpAny _ _ (typeLookup (.ref C) _) _ _ _
  refine hl _ _ k2 ?_
  refine wpAny_holding (wpAny_bind ?_)
  unfold bindSpecial
  refine wpAny_bind (wpAny_typeOf (T := "function") ⟨_, hfI₁, hfc⟩ ?_)
  rw [if_pos (by decide)]
  refine wpAny_pure (wpAny_bind (wpAny_mono (hq _ (h.objs.size + 1) ⟨k2, Heap.get?_none_of_le (Nat.le_succ _), h.objs.size, hget, Heap.get?_none_of_le (Nat.le_refl _), ?_⟩) (fun r s' hr => ?_) fun _ _ x => x))
  · exact Heap.get?_push_of_some _ (Heap.get?_push_at rfl rfl)
  · obtain ⟨rfl, hQ⟩ := hr
    wp_walk
    exact hQ
theorem call_nf (F : ExcBaseFacts B newId initId bmB) (hB : bm.contains (.type B) = true) (hA : bm.contains (.type "AttributeError") = false) (hN : bm.contains (.type "NameError") = false) {rest : List Value} {fI : Addr} {oI : Obj} {Q : Value → Shared → Prop}
    (hC : h.get? C = some (excClassObj nm q C N bs bm hdct sn sub ab col dd k0 k1 k2 k3 k5 newId))
    (hl : ∀ (A : Around) (E : Value → Shared → Prop) (h' : Heap) (Q : Option Value → Shared → Prop), (∀ b o, h.get? b = some o → h'.get? b = some o) → Q (some (.ref fI)) ⟨h', g, d, t, os⟩ → wpAny (model prog w) A (typeLookup (.ref C) "__init__") Q E ⟨h', g, d, t, os⟩)
    (hfI : h.get? fI = some oI) (hfc : oI.cls = .type "function")
    (hq : ∀ h' e, Heap.MadeExcOf h h' e (.ref C) rest →
      wpAny (model prog w) (A.under (.builtin "type.__call__" ⟨.ref C :: rest, []⟩)) (call (.ref fI) (.ref e :: rest)) (fun r s' => r = .none ∧ Q (.ref e) s') E ⟨h', g, d, t, os⟩) (hrest : rest.length ≤ sizeLine) :
    wpAny (model prog w) A (call (.ref C) rest) Q E ⟨h, g, d, t, os⟩ := by
  have f1 := tc_lookup
  have f2 := tc_bind (.ref C)
  have hT : (⟨h, g, d, t, os⟩ : Shared).TypeIs (.ref C) "type" := ⟨_, hC, rfl⟩
  refine wpAny_call (codeAny_of_tree ?_)
  show wpAny _ _ (callAny (.ref C) _) _ _ _
  repeat (any_goals (first | assumption | with_reducible refine wpAny_loadPart_at hC ?_ | wp_step))
  refine ⟨rfl, ?_⟩
  refine codeAny_call_builtin_at (Code.quiet_builtin _ (by decide +kernel)) entry_typeCall (wpAny_check_type_call_sub hC (type_call_nf F hB hA hN hC (fun h' Q k q => hl _ _ h' Q k q) hfI hfc (fun h' e hm => ?_) hrest))
  exact hq h' e hm
end

end
-- Exc2
section
open PySem PySem.W PyProof.Rows Builtin Builtin.ObjectAttr
section
variable {M : Model} {A : Around} {E : Value → Shared → Prop} {h : Heap} {g : Array GenState} {d : Drawn} {t : Nat} {os : OsState}
variable {nm q : Str} {C N P : Addr} {bs bmB : List Value} {hdct : Bool} {sn : List Str} {sub : List Value} {ab : Bool} {col : Option Bool} {dd : Option Addr} {k0 k1 k2 k3 k5 : Option Value} {B newId : String}
/-- a name along a class, its own base, and a built-in class -/
theorem lk2 {c0 : Value} {dP : Option Addr} {cd : ClassData} {sl : Array (Option Value)} {name : Str} {mN mP : Str → Option Value} {y : Option Value} {Q : Option Value → Shared → Prop}
    (hC : h.get? C = some (excClassObj nm q C N bs (.ref P :: bmB) hdct sn sub ab col dd k0 k1 k2 k3 k5 newId)) (hn : h.Ns N mN) (hP : h.get? P = some { cls := c0, dict := dP, data := .cls cd, slots := sl }) (hp : h.Ns cd.ns mP)
    (hbm : mroOf (.type B) = pure bmB) (hB : typeLookup (.type B) name = pure y)
    (hq : Q (match mN name with | some v => some v | none => match mP name with | some v => some v | none => y) ⟨h, g, d, t, os⟩) : wpAny M A (typeLookup (.ref C) name) Q E ⟨h, g, d, t, os⟩ := by
  have hrest : lookupAlong bmB name = pure y := by rw [typeLookup_eq, hbm] at hB; exact hB
  rw [typeLookup_eq]
  refine wpAny_bind (wpAny_mroOf_exc hC ?_)
  rw [lookupAlong_cons]
  refine wpAny_bind (wpAny_classOwn_exc hC hn ?_)
  cases hv : mN name with
  | some v => rw [hv] at hq; exact wpAny_pure hq
  | none =>
    rw [hv] at hq
    dsimp only at hq ⊢
    rw [lookupAlong_cons]
    refine wpAny_bind (wpAny_classOwn_cls hP hp ?_)
    cases hv2 : mP name with
    | some v => rw [hv2] at hq; exact wpAny_pure hq
    | none => rw [hv2] at hq; rw [hrest]; exact wpAny_pure hq
end
section
variable {prog : Program} {w : World} {A : Around} {E : Value → Shared → Prop} {h : Heap} {g : Array GenState} {d : Drawn} {t : Nat} {os : OsState}
variable {nm q : Str} {C N x P : Addr} {bs bmB : List Value} {sn : List Str} {sub : List Value} {ab : Bool} {col : Option Bool} {dd : Option Addr} {k0 k1 k2 k3 k5 : Option Value} {B newId sa owner : String}
  {mN mA mP : Str → Option Value} {name : Str} {v : Value} {c0 : Value} {dP : Option Addr} {cd : ClassData} {sl : Array (Option Value)}
theorem chk_sa {M : Model} {o : Obj} {nameV : Value} {Q : Unit → Shared → Prop} (SF : StoreFacts B bmB sa owner)
    (hC : h.get? C = some (excClassObj nm q C N bs (.ref P :: bmB) true sn sub ab col dd k0 k1 k2 k3 k5 newId)) (hx : h.get? x = some o) (hc : o.cls = .ref C) (hq : Q () ⟨h, g, d, t, os⟩) :
    wpAny M A (checkBuiltinCall sa ⟨[.ref x, nameV, v], []⟩) Q E ⟨h, g, d, t, os⟩ := by
  have hcB : (Value.ref C :: .ref P :: bmB).contains (.type owner) = true := by rw [List.contains_cons, List.contains_cons, SF.hasOwner, Bool.or_true, Bool.or_true]
  have ha := SF.args (.ref x) nameV v
  simp only [checkBuiltinCall, SF.kind, SF.split]
  refine wpAny_bind ?_
  · unfold isInstance
    repeat (first | (with_reducible refine wpAny_loadPart_at hx ?_; rw [hc]) | (with_reducible refine wpAny_isSubtype_exc hC ?_; rw [hcB]) | wp_step)
    cases hsig : Manifest.signature? sa with
    | none => exact wpAny_pure hq
    | some sig =>
      simp only [argsOk, hsig] at ha
      have h2 : Bind.checkArgs sa sig ⟨[.ref x, nameV, v], []⟩ = pure () := ha
      show wpAny M A (Bind.checkArgs sa sig ⟨[.ref x, nameV, v], []⟩) Q E _
      rw [h2]; exact wpAny_pure hq
/-- what a store leaves -/
abbrev Stored (h : Heap) (x C : Addr) (mA : Str → Option Value) (name : Str) (v : Value) (h' : Heap) : Prop :=
  h'.Inst x C (fun y => if y = name then some v else mA y) ∧
  (∀ b o, b ≠ x → (∀ o₀ dx, h.get? x = some o₀ → o₀.dict = some dx → b ≠ dx) → h.get? b = some o → h'.get? b = some o) ∧
  (∀ o₀, h.get? x = some o₀ → ∃ o₁, h'.get? x = some o₁ ∧ o₁.cls = o₀.cls ∧ o₁.data = o₀.data ∧ o₁.slots = o₀.slots ∧ ∀ dx, o₀.dict = some dx → o₁.dict = some dx) ∧
  (∀ o₀ o₁, h.get? x = some o₀ → o₀.dict = none → h'.get? x = some o₁ → o₁.dict = some h.objs.size)
theorem store_nf {tk : Tok} {Q : Fin → Shared → Prop} {ns : List Str} (SF : StoreFacts B bmB sa owner)
    (hC : h.get? C = some (excClassObj nm q C N bs (.ref P :: bmB) true sn sub ab col dd k0 k1 k2 k3 k5 newId)) (hn : h.Ns N mN) (hna : mN name = none) (hP : h.get? P = some { cls := c0, dict := dP, data := .cls cd, slots := sl }) (hp : h.Ns cd.ns mP) (hpa : mP name = none)
    (hB : typeLookup (.type B) name = pure none) (I : h.Inst x C mA)
    (hq : ∀ h' tk', Stored h x C mA name v h' → Q (.done (.ret .none)) ⟨h', g, d, tk', os⟩) (hw : Within mA ns) (hsz : ns.length ≤ 100) :
    wpAny (model prog w) A (Builtin.«object.__setattr__» ⟨[.ref x, .str name tk, v], []⟩) Q E ⟨h, g, d, t, os⟩ := by
  obtain ⟨o, hx, hc, hnc, hd⟩ := I
  have hpass := SF.passes (.ref x)
  unfold Builtin.«object.__setattr__»
  repeat (first | rw [refuse_eq] | (rw [refuseLoop_ref, refuseLoop_ref, hpass]) | (with_reducible refine wpAny_loadPart_at hx ?_; rw [hc]) | with_reducible refine wpAny_mroOf_exc hC ?_ | (with_reducible refine lk2 hC hn hP hp SF.mro hB ?_; rw [hna, hpa]) | wp_step)
  rcases hd with ⟨hdn, hmA⟩ | ⟨dx, hdx, hne, hns⟩
  · rw [hdn, if_neg (by simp [typeHasDict])]
    split
    · rename_i e; cases e
    split
    · rename_i c e; exact absurd e (hnc c)
    · have hx₁ : (h.push { cls := .type "dict", data := .dict #[] }).get? x = some o := Heap.get?_push_of_some _ hx
      have hxs : x ≠ h.objs.size := Nat.ne_of_lt (Heap.lt_size hx)
      refine wpAny_bind (wpAny_alloc' ?_)
      refine wpAny_bind (wpAny_update' hx₁ ?_)
      refine wpAny_pure ?_
      have hgd : ((h.push { cls := .type "dict", data := .dict #[] }).update x fun o => { cls := o.cls, dict := some h.objs.size, data := o.data, slots := o.slots }).get? h.objs.size = some { cls := .type "dict", data := .dict #[] } :=
        (Heap.get?_update_ne _ _ _ _ hxs.symm).trans (Heap.get?_push_at rfl rfl)
      have hnd : ((h.push { cls := .type "dict", data := .dict #[] }).update x fun o => { cls := o.cls, dict := some h.objs.size, data := o.data, slots := o.slots }).Ns h.objs.size (fun _ => none) :=
        ⟨_, #[], _, hgd, rfl, fun e he => absurd he (by simp), fun _ => rfl⟩
      show wpAny _ _ (storeInDict h.objs.size (.str name tk) name v) _ _ _
      unfold storeInDict newKeyGuard
      refine wpAny_bind (wpAny_pure (wpAny_bind (wpAny_nsSet1 (Heap.Ns1.of_empty hnd) fun h' hn' hs => ?_)))
      obtain ⟨oD, esD, epD, hoD, hdD, hcD⟩ := hn'.count (Within.cons name v Within.nil)
      refine wpAny_bind (wpAny_lookBehind hoD (by rw [hdD]; exact pastItsLine_dict (Nat.le_trans hcD (by rw [List.length_cons, List.length_nil, sizeLine_eq]; omega))) ?_)
      wp_walk
      have hfr := (Heap.get?_some_iff.mp hx).2
      have hx' : h'.get? x = some { cls := o.cls, dict := some h.objs.size, data := o.data, slots := o.slots } := by
        refine (hs.2 x hxs).trans (Heap.get?_update_self _ hx₁ ?_)
        obtain ⟨oc, od, odt, osl⟩ := o
        cases odt <;> first | rfl | exact hfr
      refine hq h' _ ⟨⟨_, hx', hc, hnc, .inr ⟨h.objs.size, rfl, hxs.symm, ?_⟩⟩, fun b ob hbx _ hb => ?_, fun o₀ h₀ => by obtain rfl : o = o₀ := Option.some.inj (hx.symm.trans h₀); exact ⟨_, hx', rfl, rfl, rfl, fun dx e => by rw [hdn] at e; cases e⟩, fun o₀ o₁ _ _ h₁ => by rw [hx'] at h₁; cases h₁; rfl⟩
      · obtain ⟨o', es, ep, e1, e2, e3, eu, e4⟩ := hn'
        exact ⟨o', es, ep, e1, e2, e3, eu, fun y => by rw [e4 y]; by_cases hy : y = name <;> simp [hy, hmA]⟩
      · exact (hs.2 b (Nat.ne_of_lt (Heap.lt_size hb))).trans ((Heap.get?_update_ne _ _ _ _ hbx).trans (Heap.get?_push_of_some _ hb))
  · rw [hdx]
    refine wpAny_pure ?_
    show wpAny _ _ (storeInDict dx (.str name tk) name v) _ _ _
    unfold storeInDict newKeyGuard
    refine wpAny_bind (wpAny_pure (wpAny_bind (wpAny_nsSet1 hns fun h' hn' hs => ?_)))
    obtain ⟨oD, esD, epD, hoD, hdD, hcD⟩ := hn'.count (Within.cons name v hw)
    refine wpAny_bind (wpAny_lookBehind hoD (by rw [hdD]; exact pastItsLine_dict (Nat.le_trans hcD (by rw [List.length_cons, sizeLine_eq]; omega))) ?_)
    wp_walk
    exact hq h' _ ⟨⟨o, (hs.2 x hne.symm).trans hx, hc, hnc, .inr ⟨dx, hdx, hne, hn'⟩⟩, fun b ob _ hbd hb => (hs.2 b (hbd o dx hx hdx)).trans hb, fun o₀ h₀ => ⟨o₀, (hs.2 x hne.symm).trans h₀, rfl, rfl, rfl, fun _ e => e⟩, fun o₀ o₁ h₀ e _ => by obtain rfl : o = o₀ := Option.some.inj (hx.symm.trans h₀); rw [hdx] at e; cases e⟩
theorem setattr_nf {Q : Unit → Shared → Prop} {ns : List Str} (SF : StoreFacts B bmB sa owner)
    (hC : h.get? C = some (excClassObj nm q C N bs (.ref P :: bmB) true sn sub ab col dd k0 k1 k2 k3 k5 newId)) (hn : h.Ns N mN) (hns : mN "__setattr__" = none) (hna : mN name = none) (hP : h.get? P = some { cls := c0, dict := dP, data := .cls cd, slots := sl }) (hp : h.Ns cd.ns mP) (hps : mP "__setattr__" = none) (hpa : mP name = none)
    (hB : typeLookup (.type B) name = pure none) (I : h.Inst x C mA)
    (hq : ∀ h' tk', Stored h x C mA name v h' → Q () ⟨h', g, d, tk', os⟩) (hw : Within mA ns) (hsz : ns.length ≤ 100) :
    wpAny (model prog w) A (setAttr (.ref x) name v) Q E ⟨h, g, d, t, os⟩ := by
  obtain ⟨o, hx, hc, _⟩ := id I
  have f3 := SF.slot.bind (.ref x)
  unfold setAttr callSpecial? specialOf
  repeat (any_goals (first | assumption | (with_reducible refine wpAny_loadPart_at hx ?_; rw [hc]) | (with_reducible refine lk2 hC hn hP hp SF.mro SF.slot.lookup ?_; rw [hns, hps]) | wp_step))
  refine codeAny_call_builtin SF.slot.plain SF.entry (chk_sa SF hC hx hc (store_nf SF hC hn hna hP hp hpa hB I (fun h' tk' S => ?_) hw hsz))
  repeat (any_goals (first | assumption | wp_step))
  exact hq h' tk' S
end

end
-- Exc3
section
open PySem PySem.W PyProof.Rows Builtin Builtin.ObjectAttr
section
variable {prog : Program} {w : World} {A : Around} {E : Value → Shared → Prop} {h : Heap} {g : Array GenState} {d : Drawn} {t : Nat} {os : OsState}
variable {nm q : Str} {C N x P : Addr} {bs bmB : List Value} {sn : List Str} {sub : List Value} {ab : Bool} {col : Option Bool} {dd : Option Addr} {k0 k1 k2 k3 k5 : Option Value} {B newId sa owner : String}
  {mN mA mP : Str → Option Value} {name : Str} {v : Value} {c0 : Value} {dP : Option Addr} {cd : ClassData} {sl : Array (Option Value)}
theorem chk_ga {M : Model} {o : Obj} {nameV : Value} {Q : Unit → Shared → Prop} (FB : ExcAttrBase B bmB)
    (hC : h.get? C = some (excClassObj nm q C N bs (.ref P :: bmB) true sn sub ab col dd k0 k1 k2 k3 k5 newId)) (hx : h.get? x = some o) (hc : o.cls = .ref C) (hq : Q () ⟨h, g, d, t, os⟩) :
    wpAny M A (checkBuiltinCall "BaseException.__getattribute__" ⟨[.ref x, nameV], []⟩) Q E ⟨h, g, d, t, os⟩ := by
  have hk : builtinKind "BaseException.__getattribute__" = some .slot := by decide +kernel
  have hsplit : splitId "BaseException.__getattribute__" = some ("BaseException", "__getattribute__") := by decide +kernel
  have hcB : (Value.ref C :: .ref P :: bmB).contains (.type "BaseException") = true := by rw [List.contains_cons, List.contains_cons, FB.hasBase, Bool.or_true, Bool.or_true]
  have ha := F.args_bexc_ga (.ref x) nameV
  simp only [checkBuiltinCall, hk, hsplit]
  refine wpAny_bind ?_
  · unfold isInstance
    repeat (first | (with_reducible refine wpAny_loadPart_at hx ?_; rw [hc]) | (with_reducible refine wpAny_isSubtype_exc hC ?_; rw [hcB]) | wp_step)
    exact hq
theorem ga_entry {tk : Tok} {Q : Fin → Shared → Prop} (FB : ExcAttrBase B bmB)
    (hC : h.get? C = some (excClassObj nm q C N bs (.ref P :: bmB) true sn sub ab col dd k0 k1 k2 k3 k5 newId)) (hn : h.Ns N mN) (hna : mN name = none) (hP : h.get? P = some { cls := c0, dict := dP, data := .cls cd, slots := sl }) (hp : h.Ns cd.ns mP) (hpa : mP name = none)
    (hB : typeLookup (.type B) name = pure none) (I : h.Inst x C mA) (hv : mA name = some v) (hh : handedOut v = pure v) (hq : Q (.done (.ret v)) ⟨h, g, d, t, os⟩) :
    wpAny (model prog w) A (Builtin.«object.__getattribute__» ⟨[.ref x, .str name tk], []⟩) Q E ⟨h, g, d, t, os⟩ := by
  obtain ⟨o, hx, hc, hnc, hd⟩ := I
  rcases hd with ⟨_, hmA⟩ | ⟨dx, hdx, hne, hns⟩
  · rw [hmA name] at hv; cases hv
  unfold Builtin.«object.__getattribute__»
  repeat (any_goals (first | assumption | (with_reducible refine wpAny_loadPart_at hx ?_; rw [hc]) | (with_reducible refine lk2 hC hn hP hp FB.mro hB ?_; rw [hna, hpa]) | wp_step))
  split
  · rename_i c hcd
    exact absurd hcd (hnc c)
  unfold instanceDict
  repeat (any_goals (first | assumption | (with_reducible refine wpAny_loadPart_at hx ?_; rw [hc]) | with_reducible refine wpAny_loadPart_at hC ?_ | wp_step))
  rw [hdx]
  repeat (any_goals (first | assumption | (with_reducible refine wpAny_nsGet hns.ns ?_; rw [hv]) | wp_step))
theorem getattr_nf {expr : Bool} {Q : Value → Shared → Prop} (FB : ExcAttrBase B bmB)
    (hC : h.get? C = some (excClassObj nm q C N bs (.ref P :: bmB) true sn sub ab col dd k0 k1 k2 k3 k5 newId)) (hn : h.Ns N mN) (hng : mN "__getattribute__" = none) (hnh : mN "__getattr__" = none) (hna : mN name = none)
    (hP : h.get? P = some { cls := c0, dict := dP, data := .cls cd, slots := sl }) (hp : h.Ns cd.ns mP) (hpg : mP "__getattribute__" = none) (hph : mP "__getattr__" = none) (hpa : mP name = none)
    (hB : typeLookup (.type B) name = pure none) (I : h.Inst x C mA) (hv : mA name = some v) (hh : handedOut v = pure v) (hq : Q v ⟨h, g, d, t + 1, os⟩) :
    wpAny (model prog w) A (getAttr (.ref x) name expr) Q E ⟨h, g, d, t, os⟩ := by
  obtain ⟨o, hx, hc, _⟩ := id I
  have f3 := FB.ga.bind (.ref x)
  have hx0 : (expr && onTheHeap (Value.builtin "BaseException.__getattribute__")) = false := by cases expr <;> rfl
  have hx2 : (Value.builtin "BaseException.__getattribute__" == Value.builtin "object.__getattribute__") = false := by decide +kernel
  have hx1 : (onTheHeap (Value.ref C) && Value.builtin "BaseException.__getattribute__" == Value.builtin "object.__getattribute__") = false := by rw [hx2]; rfl
  unfold getAttr getAttrBy
  repeat (any_goals (first | assumption | (with_reducible refine wpAny_loadPart_at hx ?_; rw [hc]) | (with_reducible refine lk2 hC hn hP hp FB.mro FB.ga.lookup ?_; rw [hng, hpg]) | (with_reducible refine lk2 hC hn hP hp FB.mro FB.noGetattr ?_; rw [hnh, hph]) | wp_step))
  refine codeAny_call_builtin FB.ga.plain F.entry_bexc_ga (chk_ga FB hC hx hc (ga_entry FB hC hn hna hP hp hpa hB I hv hh ?_))
  repeat (any_goals (first | assumption | wp_step))
end

end
-- Sta
section
open PySem PySem.W PyProof.Rows PySem.Heap
/-- what a record's turned fields leave alone -/
structure Kept (P : Obj → Prop) : Prop where
  map : ∀ o f, P o → P (Obj.mapFields f o)
/-- an exception in hand, its class and attributes as P says, its last traceback entry's flight as fl -/
def TrX (P : Obj → Prop) (h base : Heap) (e : Addr) (fl : Value) : Prop :=
  ∃ oe vs T oT ts, h.get? e = some oe ∧ P oe ∧ oe.data = .fields vs ∧ vs[1]? = some (.ref T) ∧ base.get? T = none ∧ T ≠ e ∧ h.get? T = some oT ∧ oT.data = .fields ts ∧ ts[3]? = some fl
def NtX (P : Obj → Prop) (base : Heap) (l : List Env) (e : Addr) (fl : Value) (h h' : Heap) : Prop :=
  base.StaysIn h' ∧ h'.FunFrames base l ∧ TrX P h' base e fl ∧ h.UpToSlots h'
def FlX (P : Obj → Prop) (base : Heap) (l : List Env) (e : Addr) (fl : Value) (h : Heap) : Prop :=
  base.StaysIn h ∧ base.get? e = none ∧ h.FunFrames base l ∧ TrX P h base e fl
section
variable {M : Model} {A : Around} {E : Value → Shared → Prop} {s : Shared} {P : Obj → Prop}
theorem entryX (kP : Kept P) {base : Heap} {env : Env} {outer : List Env} {L e : Addr} {oe : Obj} {vs : Array Value} {head : Value} {hadNext : Bool} {Q : Unit → Shared → Prop}
    (hfr : A.frames = some (env :: outer)) (hl : s.heap.FunFrames base (env :: outer)) (hf : env.frame = some L) (he : s.heap.get? e = some oe) (hkb : base.StaysIn s.heap) (hen : base.get? e = none) (hd : oe.data = .fields vs) (hsz : 1 < vs.size) (hP : P oe)
    (h : ∀ h', NtX P base (env :: outer) e (rawInt L) s.heap h' → Q () { s with heap := h' }) :
    wpAny M A (do let a ← frameOf env; let pl ← entryPlaceOf L hadNext; let b ← EntryCells.newEntry head a .none (rawInt L) .none pl; setField (.ref e) 1 b) Q E s := by
  have hene : e ∉ (env :: outer).filterMap (·.frame) := fun hm => by
    obtain ⟨_, o, ho, hnf⟩ := hl.mem hm
    rw [he] at ho; injection ho with ho; subst ho; exact hnf vs hd
  refine wpAny_bind (wpAny_frameOf_fun hfr hl hf fun h₁ hs₁ => ?_)
  refine wpAny_bind (wpAny_entryPlaceOf fun pl hpl => ?_)
  unfold EntryCells.newEntry newFields
  refine wpAny_bind (wpAny_newObj_type ?_ (hpl.sizeOk5 _ _ _ _ _))
  have he₁ : h₁.get? e = some oe := (hs₁.2.1 e hene).trans he
  have kb₁ : base.StaysIn h₁ := fun b o hbo => (hs₁.2.1 b fun hm => by rw [(hl.mem hm).1] at hbo; cases hbo).trans (hkb b o hbo)
  generalize hob : ({ cls := .type "traceback", dict := none, data := .fields ([head, .ref L, .none, rawInt L, .none] ++ (if pl.isEmpty then List.replicate 6 Value.none else pl)).toArray } : Obj) = ob
  have he₂ := Heap.get?_push_of_some (h := h₁) ob he₁
  refine wpAny_setField he₂ hd hsz (h _ ?_)
  have hTe : h₁.objs.size ≠ e := Nat.ne_of_gt (Heap.lt_size he₁)
  have hd₃ := Obj.data_mapFields hd (·.setIfInBounds 1 (Value.ref h₁.objs.size))
  have he₃ := Heap.get?_update_self (Obj.mapFields (·.setIfInBounds 1 (Value.ref h₁.objs.size))) he₂ (Obj.isFreed_of_fields hd₃)
  have hT₃ := (Heap.get?_update_other (h₁.push ob) (Obj.mapFields (·.setIfInBounds 1 (Value.ref h₁.objs.size))) (Ne.symm hTe)).trans (Heap.get?_push_size h₁ (by rw [← hob]; rfl))
  have keep : ∀ b o, b ≠ e → h₁.get? b = some o → ((h₁.push ob).update e (Obj.mapFields (·.setIfInBounds 1 (Value.ref h₁.objs.size)))).get? b = some o := fun b o hbe hb => by
    rw [Heap.get?_update_other _ _ (Ne.symm hbe)]; exact Heap.get?_push_of_some _ hb
  have noRecord : ∀ b o, s.heap.get? b = some o → (∀ vs, o.data ≠ .fields vs) → b ≠ e := fun b o hb hnf q => by
    rw [q, he] at hb; injection hb with hb; subst hb; exact hnf vs hd
  refine ⟨fun b o hbo => keep b o (fun q => by rw [q, hen] at hbo; cases hbo) (kb₁ b o hbo), hl.of_keeps fun b o hb hnf => ?_, ?_, fun b o hb hnf => ?_⟩
  · obtain ⟨sl, hs⟩ := hs₁.2.2 b o hb
    exact ⟨_, keep b _ (noRecord b o hb hnf) hs, rfl⟩
  · subst hob
    exact ⟨_, _, h₁.objs.size, _, _, he₃, kP.map _ _ hP, hd₃, by simp [hsz], kb₁.fresh, hTe, hT₃, rfl, by first | (simp; done) | (rcases hpl with rfl | ⟨_, _, _, _, _, _, _, rfl⟩ <;> simp)⟩
  · obtain ⟨sl, hs⟩ := hs₁.2.2 b o hb
    exact ⟨sl, keep b _ (noRecord b o hb hnf) hs⟩
theorem note_firstX (kP : Kept P) {base : Heap} {env : Env} {outer : List Env} {L e : Addr} {oe : Obj} {vs : Array Value} {Q : Unit → Shared → Prop}
    (hfr : A.frames = some (env :: outer)) (hl : s.heap.FunFrames base (env :: outer)) (hf : env.frame = some L) (he : s.heap.get? e = some oe) (hkb : base.StaysIn s.heap) (hen : base.get? e = none) (hd : oe.data = .fields vs) (h1 : vs[1]? = some .none) (hP : P oe)
    (h : ∀ h', NtX P base (env :: outer) e (rawInt L) s.heap h' → Q () { s with heap := h' }) : wpAny M A (noteFrame (.ref e) env) Q E s := by
  unfold noteFrame
  simp only [hf]
  refine wpAny_bind (wpAny_field he hd h1 ?_)
  rw [if_neg (by decide)]
  exact entryX kP hfr hl hf he hkb hen hd (Array.getElem?_eq_some_iff.mp h1).1 hP h
theorem note_onX (kP : Kept P) {base : Heap} {env : Env} {outer : List Env} {L e : Addr} {Q : Unit → Shared → Prop}
    (hfr : A.frames = some (env :: outer)) (hf : env.frame = some L) (R : FlX P base (env :: outer) e .none s.heap)
    (h : ∀ h', NtX P base (env :: outer) e (rawInt L) s.heap h' → Q () { s with heap := h' }) : wpAny M A (noteFrame (.ref e) env) Q E s := by
  obtain ⟨hkb, hen, hl, oe, vs, T, oT, ts, he, hP, hd, h1, hnT, hTe, hT, hdT, h3⟩ := R
  unfold noteFrame
  simp only [hf]
  refine wpAny_bind (wpAny_field he hd h1 ?_)
  rw [if_pos (show (Value.ref T != Value.none) = true from by simp)]
  refine wpAny_bind (wpAny_field hT hdT h3 ?_)
  rw [if_neg (show ¬ ((Value.none == rawInt L) = true) from by simp [rawInt])]
  refine wpAny_bind (wpAny_setField hT hdT (Array.getElem?_eq_some_iff.mp h3).1 ?_)
  have other : ∀ b, b ≠ T → (s.heap.update T (Obj.mapFields (·.setIfInBounds 3 Value.none))).get? b = s.heap.get? b := fun b hb => Heap.get?_update_other _ _ (Ne.symm hb)
  have noRecord : ∀ b o, s.heap.get? b = some o → (∀ vs, o.data ≠ .fields vs) → b ≠ T := fun b o hb hnf q => by
    rw [q, hT] at hb; injection hb with hb; subst hb; exact hnf ts hdT
  exact entryX kP hfr (hl.of_keeps fun b o hb hnf => ⟨o, (other b (noRecord b o hb hnf)).trans hb, rfl⟩) hf ((other e (Ne.symm hTe)).trans he)
    (fun b o hbo => (other b fun q => by rw [q, hnT] at hbo; cases hbo).trans (hkb b o hbo)) hen hd (Array.getElem?_eq_some_iff.mp h1).1 hP
    fun h' ⟨x1, x2, x3, x4⟩ => h h' ⟨x1, x2, x3, fun b o hb hnf => x4 b o ((other b (noRecord b o hb hnf)).trans hb) hnf⟩
theorem flightX {base : Heap} {l : List Env} {e : Addr} {fl : Value} {Q : Unit → Shared → Prop} (R : FlX P base l e fl s.heap)
    (h : ∀ h', FlX P base l e .none h' → s.heap.UpToSlots h' → Q () { s with heap := h' }) : wpAny M A (setFlight (.ref e) none) Q E s := by
  obtain ⟨hkb, hen, hl, oe, vs, T, oT, ts, he, hP, hd, h1, hnT, hTe, hT, hdT, h3⟩ := R
  have hsz3 : 3 < ts.size := (Array.getElem?_eq_some_iff.mp h3).1
  have other : ∀ b, b ≠ T → (s.heap.update T (Obj.mapFields (·.setIfInBounds 3 ((none : Option Addr).elim Value.none fun f => rawInt f)))).get? b = s.heap.get? b := fun b hb => Heap.get?_update_other _ _ (Ne.symm hb)
  have noRecord : ∀ b o, s.heap.get? b = some o → (∀ vs, o.data ≠ .fields vs) → b ≠ T := fun b o hb hnf q => by
    rw [q, hT] at hb; injection hb with hb; subst hb; exact hnf ts hdT
  unfold setFlight
  refine wpAny_bind (wpAny_field he hd h1 ?_)
  rw [if_pos (show (Value.ref T != Value.none) = true from by simp)]
  refine wpAny_setField hT hdT hsz3 (h _ ⟨fun b o hbo => (other b fun q => by rw [q, hnT] at hbo; cases hbo).trans (hkb b o hbo), hen, hl.of_keeps fun b o hb hnf => ⟨o, (other b (noRecord b o hb hnf)).trans hb, rfl⟩, ?_⟩ fun b o hb hnf => ⟨o.slots, (other b (noRecord b o hb hnf)).trans hb⟩)
  exact ⟨oe, vs, T, _, _, (other e (Ne.symm hTe)).trans he, hP, hd, h1, hnT, hTe, Heap.get?_update_self _ hT (Obj.isFreed_of_fields (Obj.data_mapFields hdT _)), Obj.data_mapFields hdT _, by simp [hsz3]⟩
theorem FlX.pop {base h : Heap} {env : Env} {l : List Env} {e : Addr} {fl : Value} (R : FlX P base (env :: l) e fl h) : FlX P base l e fl h := by
  obtain ⟨a, b, ⟨_, _, c⟩, d⟩ := R
  exact ⟨a, b, c, d⟩
theorem leave_firstX (kP : Kept P) {base : Heap} {env : Env} {outer : List Env} {L e : Addr} {oe : Obj} {vs : Array Value} {Q : Unit → Shared → Prop}
    (hfr : A.frames = some (env :: outer)) (hl : s.heap.FunFrames base (env :: outer)) (hf : env.frame = some L) (he : s.heap.get? e = some oe) (hkb : base.StaysIn s.heap) (hen : base.get? e = none) (hd : oe.data = .fields vs) (h1 : vs[1]? = some .none) (hP : P oe)
    (h : ∀ h', FlX P base outer e .none h' → s.heap.UpToSlots h' → Q () { s with heap := h' }) : wpAny M A (leaving env (.ref e)) Q E s := by
  unfold leaving
  refine wpAny_bind (note_firstX kP hfr hl hf he hkb hen hd h1 hP fun h' ⟨a, b, c, d⟩ => ?_)
  exact flightX ⟨a, hen, b, c⟩ fun h'' R u => h h'' R.pop (d.trans u)
theorem leave_onX (kP : Kept P) {base : Heap} {env : Env} {outer : List Env} {L e : Addr} {Q : Unit → Shared → Prop}
    (hfr : A.frames = some (env :: outer)) (hf : env.frame = some L) (R : FlX P base (env :: outer) e .none s.heap)
    (h : ∀ h', FlX P base outer e .none h' → s.heap.UpToSlots h' → Q () { s with heap := h' }) : wpAny M A (leaving env (.ref e)) Q E s := by
  unfold leaving
  refine wpAny_bind (note_onX kP hfr hf R fun h' ⟨a, b, c, d⟩ => ?_)
  exact flightX ⟨a, R.2.1, b, c⟩ fun h'' R u => h h'' R.pop (d.trans u)
end

end
-- Sta2
section
open PySem PySem.W PyProof.Rows PySem.Heap PySem.Calls PyProof.V PySem.Spec
theorem uts_ns1 {h h' : Heap} {a : Addr} {m : Str → Option Value} (x : h.UpToSlots h') (hn : h.Ns1 a m) : h'.Ns1 a m := by
  obtain ⟨o, es, ep, ho, hd, r⟩ := hn
  obtain ⟨sl, hs⟩ := x a o ho fun vs q => by rw [hd] at q; cases q
  exact ⟨_, es, ep, hs, hd, r⟩
def PX (D : Addr) (o : Obj) : Prop := o.cls = .ref 64 ∧ o.dict = some D
theorem kPX (D : Addr) : Kept (PX D) := ⟨fun o f h => by
  obtain ⟨c, d, dt, sl⟩ := o
  cases dt <;> exact h⟩
/-- a NameFault made, its own attributes stored -/
structure MadeNF (h h' : Heap) (e : Addr) (at_ : Int) : Prop where
  keeps : ∀ b o, h.get? b = some o → h'.get? b = some o
  new : h.get? e = none
  there : ∃ o vs D mA u, h'.get? e = some o ∧ PX D o ∧ o.data = .fields vs ∧ vs[1]? = some .none ∧ h.get? D = none ∧ D ≠ e ∧ h'.Ns1 D mA ∧ mA "at" = some (.int at_ u)
def RaisedX (base : Heap) (l : List Env) (e : Addr) (at_ : Int) (news : Led) (h : Heap) : Prop :=
  ∃ B D mA u, base.StaysIn B ∧ (∀ q ∈ news, B.get? q.1 = some q.2 ∧ base.get? q.1 = none) ∧ FlX (PX D) B l e .none h ∧ D ≠ e ∧ (∀ env ∈ l, env.frame ≠ some D) ∧ base.get? D = none ∧ h.Ns1 D mA ∧ mA "at" = some (.int at_ u)
section
variable {M : Model} {A : Around} {E : Value → Shared → Prop} {s' : Shared} {base g g₂ h : Heap} {outer : List Env} {L a e : Addr} {m : Str → Option Value} {name : Str} {scope : Scope} {cd : Value} {Q : Unit → Shared → Prop} {news : Led} {at_ : Int}
theorem leave_raiseX (K : Below A base outer g) (hx : MadeNF h s'.heap e at_) (F : Fr g L h m) (N : News g L h news)
    (hQ : ∀ h', RaisedX base outer e at_ news h' → g.UpToSlots h' → Q () { s' with heap := h' }) (hk : scope.kind = .function := by rfl) :
    wpAny M (A.deeper (envOf name scope L a cd)) (leaving (envOf name scope L a cd) (.ref e)) Q E s' := by
  have K' := K.push (name := name) (a := a) (cd := cd) F hk
  have hin : ∀ env ∈ (envOf name scope L a cd :: outer), ∀ b, env.frame = some b → b ∈ (envOf name scope L a cd :: outer).filterMap (·.frame) := fun env he b hb => List.mem_filterMap.mpr ⟨env, he, hb⟩
  have st : base.StaysIn (hideAll h ((envOf name scope L a cd :: outer).filterMap (·.frame))) := fun b o q => hideAll_get _ (K'.stays b o q) fun hm => by
    rw [(K'.frames.mem hm).1] at q; cases q
  have hl : ∀ q ∈ news, (hideAll h ((envOf name scope L a cd :: outer).filterMap (·.frame))).get? q.1 = some q.2 ∧ base.get? q.1 = none := fun q hq => by
    refine ⟨hideAll_get _ (N q hq).1 fun hm => ?_, fresh_of_stays K.stays (N q hq).2.2⟩
    obtain ⟨env, he, hf⟩ := List.mem_filterMap.mp hm
    rcases List.mem_cons.mp he with rfl | he
    · exact (N q hq).2.1 (Option.some.inj hf).symm
    · obtain ⟨o, ho, _⟩ := (K.frames.mem (List.mem_filterMap.mpr ⟨env, he, hf⟩)).2
      rw [(N q hq).2.2] at ho; cases ho
  obtain ⟨o, vs, D, mA, u, ho, hP, hd, h1, hDn, hDe, hns, hat⟩ := hx.there
  have fresh : ∀ b, h.get? b = none → (hideAll h ((envOf name scope L a cd :: outer).filterMap (·.frame))).get? b = none := fun b hb => by
    cases q : (hideAll h ((envOf name scope L a cd :: outer).filterMap (·.frame))).get? b with
    | none => rfl
    | some o' => rw [of_hideAll _ q] at hb; cases hb
  refine leave_firstX (kPX D) K'.stack ((funFrames_hide K'.frames hin).of_keeps fun b o hb _ => ⟨o, hx.keeps b o hb, rfl⟩) rfl ho (fun b o q => hx.keeps b o (of_hideAll _ q)) (fresh e hx.new) hd h1 hP fun h' R u' => ?_
  refine hQ h' ⟨_, D, mA, u, st, hl, R, hDe, fun env henv hf => ?_, fresh_of_stays K'.stays hDn, uts_ns1 u' hns, hat⟩ (((Heap.UpToSlots.of_keeps F.keep).trans (Heap.UpToSlots.of_keeps hx.keeps)).trans u')
  obtain ⟨oo, hoo, _⟩ := (K'.frames.mem (List.mem_filterMap.mpr ⟨env, .tail _ henv, hf⟩)).2
  rw [hDn] at hoo; cases hoo
theorem leave_onXK (K : Below A base outer g) (F : Fr g L g₂ m) (R : RaisedX base (envOf name scope L a cd :: outer) e at_ news s'.heap) (hsm : g₂.UpToSlots s'.heap)
    (hQ : ∀ h', RaisedX base outer e at_ news h' → g.UpToSlots h' → Q () { s' with heap := h' }) :
    wpAny M (A.deeper (envOf name scope L a cd)) (leaving (envOf name scope L a cd) (.ref e)) Q E s' := by
  obtain ⟨B, D, mA, u, hB, hl, hfl, hDe, hDf, hDb, hns, hat⟩ := R
  exact leave_onX (kPX D) (Around.frames_deeper K.stack) rfl hfl fun h' x1 x2 => hQ h' ⟨B, D, mA, u, hB, hl, x1, hDe, fun env he => hDf env (.tail _ he), hDb, uts_ns1 x2 hns, hat⟩ ((Heap.UpToSlots.of_keeps F.keep).trans (hsm.trans x2))
end
/-- what is caught, as the ledger holds it -/
def GotX (oe oD : Obj) (e D : Addr) (at_ : Int) : Prop := oe.cls = .ref 64 ∧ oe.dict = some D ∧ (∃ vs, oe.data = .fields vs) ∧ D ≠ e ∧ ∃ mA u, (∀ (h : Heap) a, h.get? a = some oD → h.Ns1 a mA) ∧ mA "at" = some (.int at_ u)
section
variable {prog : Program} {w : World} {A₀ : Around} {E : Value → Shared → Prop} {s' : Shared} {h₀ h : Heap} {outer : List Env} {L a e : Addr} {m : Str → Option Value} {name : Str} {scope : Scope} {cd : Value}
  {n : Str} {b₀ : Stmt} {suite : List Stmt} {pos np : Pos} {rest : List ExceptHandler} {Q : Flow → Shared → Prop} {news : Led} {KF : Frag} {p : Program} {loose : List Str} {mg mb : Str → Option Value} {x : Str} {at_ : Int}
  {nm q : Str} {N : Addr} {bs bm : List Value} {hdct : Bool} {sn : List Str} {sub : List Value} {ab : Bool} {col : Option Bool} {dd : Option Addr} {k0 k1 k2 k3 k5 : Option Value} {newId : String}
theorem flX_base {P : Obj → Prop} {base B h : Heap} {l : List Env} {e : Addr} {fl : Value} (k : base.StaysIn B) (x : FlX P B l e fl h) : FlX P base l e fl h := by
  obtain ⟨f1, f2, f3, oe, vs, T, oT, ts, a1, a2, a3, a4, a5, a6⟩ := x
  exact ⟨fun b o q => f1 b o (k b o q), fresh_of_stays k f2, funFrames_base k f3, oe, vs, T, oT, ts, a1, a2, a3, a4, fresh_of_stays k a5, a6⟩
theorem caught_X (K : Below A₀ h₀ outer h₀) (F : Fr h₀ L h m) (hsm : h.UpToSlots s'.heap) (R : RaisedX h₀ (envOf name scope L a cd :: outer) e at_ news s'.heap)
    (X : KF.In h₀) (T : TopRead p loose mg mb h₀) (ex : nsIn KF mainGlobals x = some (some (.ref 64))) (hC : KF.lookup 64 = some (excClassObj nm q 64 N bs bm hdct sn sub ab col dd k0 k1 k2 k3 k5 newId)) (hbase : bm.contains (.type "BaseException") = true)
    (k : ∀ h' D oe oD tk, Fr h₀ L h' (fun y => if y = n then some (.ref e) else m y) → News h₀ L h' ((e, oe) :: (D, oD) :: news) → GotX oe oD e D at_ →
      wpAny (model prog w) ((A₀.deeper (envOf name scope L a cd)).mark (some (.ref e))) (execs (b₀ :: suite) (envOf name scope L a cd))
        (fun f s₄ => wpAny (model prog w) (A₀.deeper (envOf name scope L a cd)) (do bindName (envOf name scope L a cd) n .none; unbindBehindTheSuite (envOf name scope L a cd) n pos) (fun _ s₅ => Q f s₅) E s₄)
        (AsSuiteRaised (model prog w) ((A₀.deeper (envOf name scope L a cd)).mark (some (.ref e))) (envOf name scope L a cd) n pos (notedBy (model prog w) ((A₀.deeper (envOf name scope L a cd)).mark (some (.ref e))) (envOf name scope L a cd) (cameBackBy (model prog w) (A₀.deeper (envOf name scope L a cd)) (envOf name scope L a cd) E)))
        { s' with heap := h', toks := tk })
    (hk : scope.kind = .function := by rfl) (hlo : (envOf name scope L a cd).kindOf n = some .local := by rfl) (hx : (envOf name scope L a cd).kindOf x = some .globalImplicit := by rfl) (hd : (x == ("__debug__" : Str)) = false := by decide) :
    wpAny (model prog w) (A₀.deeper (envOf name scope L a cd)) (noteFrame (.ref e) (envOf name scope L a cd))
      (fun _ s₂ => wpAny (model prog w) (A₀.deeper (envOf name scope L a cd)) (setFlight (.ref e) none) (fun _ s₃ =>
        wpAny (model prog w) (A₀.deeper (envOf name scope L a cd)) (handleBy (.ref e) (envOf name scope L a cd) (.ExceptHandler (some (.Name x np)) (some n) (b₀ :: suite) pos :: rest)) Q E s₃) E s₂) E s' := by
  obtain ⟨B, D, mA, u, hB, hl, hfl, hDe, hDf, hDb, hns, hat⟩ := R
  have hL : B.get? L = none := by
    obtain ⟨_, ⟨L', _, hf, hn', _⟩, _⟩ := hfl.2.2.1
    obtain rfl : L = L' := Option.some.inj hf
    exact hn'
  have hDL : D ≠ L := fun q => hDf _ (.head _) (by rw [q]; rfl)
  refine note_onX (kPX D) (Around.frames_deeper K.stack) rfl hfl fun h₄ ⟨n1, n2, n3, n4⟩ => ?_
  refine flightX (P := PX D) ⟨n1, hfl.2.1, n2, n3⟩ fun h₅ hfl5 hsm₅' => ?_
  have hsm₅ := n4.trans hsm₅'
  have hfl5' := flX_base hB hfl5
  have F₅ := F.of_stays hfl5'.1 (hsm.trans hsm₅)
  obtain ⟨ob, vs5, T5, oT5, ts5, hob, hobP, _⟩ := hfl5.2.2.2
  refine wpAny_handleBy_cons (codeAny_handlers_test (name_K F₅ X T ex ?_ hk hx hd)) (by intro q; cases q)
  refine wpAny_excMatches_sub_self (F₅.keep _ _ (X _ _ hC)) hob hobP.1 hbase (codeAny_handlers_suite_as ?_)
  refine flightX hfl5 fun h₆ hfl₆ hsm₆ => ?_
  have hfl₆' := flX_base hB hfl₆
  have F₆ := F.of_stays hfl₆'.1 ((hsm.trans hsm₅).trans hsm₆)
  obtain ⟨oe, vs6, T6, oT6, ts6, hoe, hoeP, hoed, _⟩ := hfl₆.2.2.2
  have hns6 := uts_ns1 hsm₆ (uts_ns1 hsm₅ hns)
  obtain ⟨oD, esD, epD, hoD, hdD, hrD⟩ := hns6
  have N₆ : News h₀ L h₆ ((e, oe) :: (D, oD) :: news) := fun q hq => by
    rcases List.mem_cons.mp hq with rfl | hq
    · exact News.more F₆ News.nil hoe (fun es n q => by rw [hoed] at q; cases q) hfl₆'.2.1 _ (.head _)
    · rcases List.mem_cons.mp hq with rfl | hq
      · exact ⟨hoD, hDL, hDb⟩
      · exact ⟨hfl₆.1 _ _ (hl q hq).1, (fun z => by have := (hl q hq).1; rw [z, hL] at this; cases this), (hl q hq).2⟩
  refine stN F₆ N₆ (fun h₇ F₇ N₇ => ?_) hk hlo
  exact k h₇ D oe oD _ F₇ N₇ ⟨hoeP.1, hoeP.2, ⟨_, hoed⟩, hDe, mA, u, fun h a ha => ⟨oD, esD, epD, ha, hdD, hrD⟩, hat⟩
end

end
-- Exc4
section
open PySem PySem.W PyProof.Rows PySem.Heap PySem.Calls PyProof.V PySem.Spec
abbrev nfBm : List Value := [.ref 39, .type "Exception", .type "BaseException", .type "object"]
theorem lookNF (w : World) : (hd.heap_39 w.params).lookup 64 = some (excClassObj (Str.ofString "NameFault") (Str.ofString "NameFault") 64 63 [.ref 39] nfBm true [] [] false none none (some (.ref 55)) none (some (Value.str (Str.ofString "NameFault") 245)) (some (Value.str (Str.ofString "NameFault") 253)) (some (Value.bool true)) "Exception.__new__") := by rfl
theorem lookPE (w : World) : ∃ cd sl, (hd.heap_39 w.params).lookup 39 = some { cls := .type "type", data := .cls cd, slots := sl } ∧ cd.ns = 38 := ⟨_, _, rfl, rfl⟩
theorem ns_some_of {K : Frag} {h : Heap} {N : Addr} {mg : Str → Option Value} {n : Str} {v : Value} (X : K.In h) (G : h.Ns N mg) (e : nsIn K N n = some (some v)) : mg n = some v := by
  obtain ⟨o, es, ep, ho, hd, _, hf⟩ := G
  unfold nsIn at e
  split at e
  · rename_i c d es' n' sl q
    have := X _ _ q
    rw [ho] at this
    cases this
    cases hd
    split at e
    · rename_i ee he
      rw [← hf]
      unfold nsFind findBy
      rw [← Array.find?_toList, he]
      simpa using e
    · split at e <;> cases e
  · cases e
theorem nsOk63 (w : World) : nsOkIn (hd.heap_39 w.params) 63 = true := by kernel_rfl
theorem nsOk38 (w : World) : nsOkIn (hd.heap_39 w.params) 38 = true := by kernel_rfl
section
variable {prog : Program} {w : World} {A : Around} {E : Value → Shared → Prop} {h : Heap} {g : Array GenState} {d : Drawn} {t : Nat} {os : OsState}
theorem nf_lookup {name : Str} {y z : Option Value} {Q : Option Value → Shared → Prop} (X : (hd.heap_39 w.params).In h) (h63 : nsIn (hd.heap_39 w.params) 63 name = some none) (h38 : nsIn (hd.heap_39 w.params) 38 name = some z) (hB : typeLookup (.type "Exception") name = pure y)
    (hq : Q (match z with | some v => some v | none => y) ⟨h, g, d, t, os⟩) : wpAny (model prog w) A (typeLookup (.ref 64) name) Q E ⟨h, g, d, t, os⟩ := by
  obtain ⟨cd, sl, hP, hcd⟩ := lookPE w
  have n63 : h.Ns 63 (h.nsMap 63) := .of_isNs (isNs_of_in X (nsOk63 w))
  have n38 : h.Ns cd.ns (h.nsMap 38) := by rw [hcd]; exact .of_isNs (isNs_of_in X (nsOk38 w))
  refine lk2 (X _ _ (lookNF w)) n63 (X _ _ hP) n38 F.excBase_Exception.mroIs hB ?_
  rw [ns_none_of X n63 h63]
  dsimp only
  cases z with
  | none =>
    have n38' : h.Ns 38 (h.nsMap 38) := hcd ▸ n38
    rw [ns_none_of X n38' h38]; exact hq
  | some v =>
    have n38' : h.Ns 38 (h.nsMap 38) := hcd ▸ n38
    rw [ns_some_of X n38' h38]; exact hq
theorem lkE_init : typeLookup (.type "Exception") (Str.ofString "__init__") = pure (some (.builtin "Exception.__init__")) := by rw [typeLookup_type, builtinLookup_eq_fast]; kernel_rfl
theorem lkE_at : typeLookup (.type "Exception") (Str.ofString "at") = pure none := by rw [typeLookup_type, builtinLookup_eq_fast]; kernel_rfl
theorem lkE_what : typeLookup (.type "Exception") (Str.ofString "what") = pure none := by rw [typeLookup_type, builtinLookup_eq_fast]; kernel_rfl
theorem set_nf {x : Addr} {mA : Str → Option Value} {name : Str} {v : Value} {Q : Unit → Shared → Prop} {ns : List Str} (X : (hd.heap_39 w.params).In h) (hn : name = Str.ofString "at" ∨ name = Str.ofString "what") (I : h.Inst x 64 mA)
    (hq : ∀ h' tk', Stored h x 64 mA name v h' → Q () ⟨h', g, d, tk', os⟩) (hw : PySem.Within mA ns) (hsz : ns.length ≤ 100) : wpAny (model prog w) A (setAttr (.ref x) name v) Q E ⟨h, g, d, t, os⟩ := by
  obtain ⟨cd, sl, hP, hcd⟩ := lookPE w
  have n63 : h.Ns 63 (h.nsMap 63) := .of_isNs (isNs_of_in X (nsOk63 w))
  have n38 : h.Ns 38 (h.nsMap 38) := .of_isNs (isNs_of_in X (nsOk38 w))
  refine setattr_nf F.store_Exception (X _ _ (lookNF w)) n63 (ns_none_of X n63 (by rfl)) ?_ (X _ _ hP) (by rw [hcd]; exact n38) (ns_none_of X n38 (by rfl)) ?_ ?_ I hq hw hsz
  · rcases hn with rfl | rfl <;> exact ns_none_of X n63 (by rfl)
  · rcases hn with rfl | rfl <;> exact ns_none_of X n38 (by rfl)
  · rcases hn with rfl | rfl
    · exact lkE_at
    · exact lkE_what
theorem get_nf {x : Addr} {mA : Str → Option Value} {v : Value} {expr : Bool} {Q : Value → Shared → Prop} (X : (hd.heap_39 w.params).In h) (I : h.Inst x 64 mA) (hv : mA "at" = some v) (hh : handedOut v = pure v) (hq : Q v ⟨h, g, d, t + 1, os⟩) :
    wpAny (model prog w) A (getAttr (.ref x) "at" expr) Q E ⟨h, g, d, t, os⟩ := by
  obtain ⟨cd, sl, hP, hcd⟩ := lookPE w
  have n63 : h.Ns 63 (h.nsMap 63) := .of_isNs (isNs_of_in X (nsOk63 w))
  have n38 : h.Ns 38 (h.nsMap 38) := .of_isNs (isNs_of_in X (nsOk38 w))
  exact getattr_nf F.attrBase_Exception (X _ _ (lookNF w)) n63 (ns_none_of X n63 (by rfl)) (ns_none_of X n63 (by rfl)) (ns_none_of X n63 (by rfl)) (X _ _ hP) (by rw [hcd]; exact n38) (ns_none_of X n38 (by rfl)) (ns_none_of X n38 (by rfl)) (ns_none_of X n38 (by rfl)) lkE_at I hv hh hq
theorem new_nf {rest : List Value} {Q : Value → Shared → Prop} (X : (hd.heap_39 w.params).In h)
    (hq : ∀ h' e, Heap.MadeExcOf h h' e (.ref 64) rest →
      wpAny (model prog w) (A.under (.builtin "type.__call__" ⟨.ref 64 :: rest, []⟩)) (call (.ref 29) (.ref e :: rest)) (fun r s' => r = .none ∧ Q (.ref e) s') E ⟨h', g, d, t, os⟩) (hrest : rest.length ≤ sizeLine) :
    wpAny (model prog w) A (call (.ref 64) rest) Q E ⟨h, g, d, t, os⟩ := by
  have hf : ∃ o, (hd.heap_39 w.params).lookup 29 = some o ∧ o.cls = .type "function" := ⟨_, rfl, rfl⟩
  obtain ⟨oI, hI, hIc⟩ := hf
  exact call_nf F.excBase_Exception (by decide +kernel) (by decide +kernel) (by decide +kernel) (X _ _ (lookNF w)) (fun A E h' Q k q => nf_lookup (z := some (.ref 29)) (X.keeps k) (by rfl) (by rfl) lkE_init q) (X _ _ hI) hIc hq hrest
/-- Exception.__init__ upon an object of NameFault -/
theorem einit_nf {x t0 : Addr} {dct : Option Addr} {sl : Array (Option Value)} {v : Value} {Q : Value → Shared → Prop} (X : (hd.heap_39 w.params).In h) (hx : h.get? x = some { cls := .ref 64, dict := dct, data := .fields #[.ref t0, .none, .none, .none, .bool false, .none], slots := sl })
    (hq : ∀ h', (∀ b ob, b ≠ x → h.get? b = some ob → h'.get? b = some ob) → h'.get? x = some { cls := .ref 64, dict := dct, data := .fields #[.ref h.objs.size, .none, .none, .none, .bool false, .none], slots := sl } → Q .none ⟨h', g, d, t, os⟩) :
    wpAny (model prog w) A (call (.builtin "Exception.__init__") [.ref x, v]) Q E ⟨h, g, d, t, os⟩ := by
  have hC := X _ _ (lookNF w)
  have FB := F.excBase_Exception
  have hcB : (Value.ref 64 :: nfBm).contains (.type "Exception") = true := by decide +kernel
  have hshort := FB.noStar
  refine wpAny_call (codeAny_call_builtin FB.init.plain FB.initEntry ?_)
  simp only [checkBuiltinCall, FB.initKind, FB.initSplit, FB.initRow]
  repeat (first | with_reducible refine wpAny_loadPart_at hx ?_ | with_reducible refine wpAny_loadPart_at hC ?_ | (with_reducible refine wpAny_isSubtype_exc hC ?_; rw [hcB]) | wp_step)
  exact hq _ (fun b ob hb e => (Heap.get?_update_other _ _ (Ne.symm hb)).trans (Heap.get?_push_of_some _ e)) (Heap.get?_update_self _ (Heap.get?_push_of_some _ hx) rfl)
end

end
-- F_init
section
set_option maxHeartbeats 8000000
abbrev xob (t0 : Addr) (dct : Option Addr) : Obj := { cls := .ref 64, dict := dct, data := .fields #[.ref t0, .none, .none, .none, .bool false, .none] }
def DictX (oD : Obj) (mA : Str → Option Value) : Prop := ∀ (h : Heap) a, h.get? a = some oD → h.Ns1 a mA
section
variable {prog : Program} {w : World} {A : Around} {E : Value → Shared → Prop} {s : Shared} {h₀ : Heap} {L x t0 : Addr} {m : Str → Option Value} {news : Led}
theorem fr_one {h h' : Heap} (F : Fr h₀ L h m) (N : News h₀ L h news) {o : Obj} (hx : (x, o) ∈ news) (hk : ∀ b ob, b ≠ x → h.get? b = some ob → h'.get? b = some ob) : Fr h₀ L h' m :=
  LCg.fr_but (I := x) F (fun b o hb e => hk b o (by simpa using hb) e) (Ne.symm (N _ hx).2.1) (N _ hx).2.2
theorem einit_K {v : Value} {dct : Option Addr} {Q : Value → Shared → Prop} (F : Fr h₀ L s.heap m) (X : (hd.heap_39 w.params).In h₀) (N : News h₀ L s.heap ((x, xob t0 dct) :: news)) (hne : ∀ p ∈ news, p.1 ≠ x)
    (h : ∀ h' t1, Fr h₀ L h' m → News h₀ L h' ((x, xob t1 dct) :: news) → Q .none { s with heap := h' }) : wpAny (model prog w) A (call (.builtin "Exception.__init__") [.ref x, v]) Q E s := by
  refine einit_nf (X.keeps F.keep) (N _ (.head _)).1 (fun h' hk hx => h h' s.heap.objs.size (fr_one F N (.head _) hk) (fun p hp => ?_))
  rcases List.mem_cons.mp hp with rfl | hp
  · exact ⟨hx, (N _ (.head _)).2⟩
  · exact ⟨hk _ _ (hne p hp) (N p (.tail _ hp)).1, (N p (.tail _ hp)).2⟩
theorem set1_K {v : Value} {name : Str} {Q : Unit → Shared → Prop} (F : Fr h₀ L s.heap m) (X : (hd.heap_39 w.params).In h₀) (N : News h₀ L s.heap ((x, xob t0 none) :: news)) (hne : ∀ p ∈ news, p.1 ≠ x) (hn : name = Str.ofString "at" ∨ name = Str.ofString "what")
    (h : ∀ h' D oD tk, Fr h₀ L h' m → News h₀ L h' ((x, xob t0 (some D)) :: (D, oD) :: news) → DictX oD (fun y => if y = name then some v else none) → D ≠ x → (∀ p ∈ news, p.1 ≠ D) → Q () { s with heap := h', toks := tk }) :
    wpAny (model prog w) A (setAttr (.ref x) name v) Q E s := by
  have hx := (N _ (.head _)).1
  refine set_nf (mA := fun _ => none) (X.keeps F.keep) hn ⟨_, hx, rfl, (fun c e => nomatch e), .inl ⟨rfl, fun _ => rfl⟩⟩ (fun h' tk' S => ?_) PySem.Within.nil (Nat.zero_le _)
  obtain ⟨⟨o1, ho1, hc1, _, hd1⟩, hk, hsame, hfresh⟩ := S
  have hk' : ∀ b ob, b ≠ x → s.heap.get? b = some ob → h'.get? b = some ob := fun b ob hb e => hk b ob hb (fun o₀ dx e1 e2 => by rw [hx] at e1; cases e1; cases e2) e
  obtain ⟨o2, ho2, c2, d2, s2, _⟩ := hsame _ hx
  rw [ho1] at ho2
  cases ho2
  have hdict := hfresh _ _ hx rfl ho1
  rcases hd1 with ⟨e1, _⟩ | ⟨dx, e1, hne1, hns1⟩
  · rw [hdict] at e1; cases e1
  rw [hdict] at e1
  cases e1
  obtain ⟨oc, od, odt, osl⟩ := o1
  dsimp only at c2 d2 s2 hdict
  subst c2 d2 s2 hdict
  obtain ⟨oD, es, ep, hoD, hdD, hr⟩ := hns1
  refine h h' s.heap.objs.size oD tk' (fr_one F N (.head _) hk') (fun p hp => ?_) (fun h a ha => ⟨oD, es, ep, ha, hdD, hr⟩) hne1 fun p hp => Nat.ne_of_lt (Heap.lt_size (N p (.tail _ hp)).1)
  rcases List.mem_cons.mp hp with rfl | hp
  · exact ⟨ho1, (N _ (.head _)).2⟩
  · rcases List.mem_cons.mp hp with rfl | hp
    · exact ⟨hoD, Nat.ne_of_gt F.ns.lt, none_at_size F⟩
    · exact ⟨hk' _ _ (hne p hp) (N p (.tail _ hp)).1, (N p (.tail _ hp)).2⟩
theorem set2_K {v : Value} {name : Str} {mA : Str → Option Value} {ns : List Str} {D : Addr} {oD : Obj} {Q : Unit → Shared → Prop} (F : Fr h₀ L s.heap m) (X : (hd.heap_39 w.params).In h₀) (N : News h₀ L s.heap ((x, xob t0 (some D)) :: (D, oD) :: news)) (hne : ∀ p ∈ news, p.1 ≠ x) (hnD : ∀ p ∈ news, p.1 ≠ D) (hn : name = Str.ofString "at" ∨ name = Str.ofString "what") (hD : DictX oD mA) (hDx : D ≠ x) (hw : PySem.Within mA ns) (hsz : ns.length ≤ 100)
    (h : ∀ h' oD' tk, Fr h₀ L h' m → News h₀ L h' ((x, xob t0 (some D)) :: (D, oD') :: news) → DictX oD' (fun y => if y = name then some v else mA y) → Q () { s with heap := h', toks := tk }) :
    wpAny (model prog w) A (setAttr (.ref x) name v) Q E s := by
  have hx := (N _ (.head _)).1
  have hDg := (N _ (.tail _ (.head _))).1
  refine set_nf (X.keeps F.keep) hn ⟨_, hx, rfl, (fun c e => nomatch e), .inr ⟨D, rfl, hDx, hD _ _ hDg⟩⟩ (fun h' tk' S => ?_) hw hsz
  obtain ⟨⟨o1, ho1, hc1, _, hd1⟩, hk, hsame, _⟩ := S
  have hk' : ∀ b ob, b ≠ x → b ≠ D → s.heap.get? b = some ob → h'.get? b = some ob := fun b ob hb hb2 e => hk b ob hb (fun o₀ dx e1 e2 => by rw [hx] at e1; cases e1; cases e2; exact hb2) e
  obtain ⟨o2, ho2, c2, d2, s2, e2⟩ := hsame _ hx
  rw [ho1] at ho2
  cases ho2
  have hdict := e2 D rfl
  rcases hd1 with ⟨e1, _⟩ | ⟨dx, e1, hne1, hns1⟩
  · rw [hdict] at e1; cases e1
  rw [hdict] at e1
  cases e1
  obtain ⟨oc, od, odt, osl⟩ := o1
  dsimp only at c2 d2 s2 hdict
  subst c2 d2 s2 hdict
  obtain ⟨oD', es, ep, hoD, hdD, hr⟩ := hns1
  have F1 : Fr h₀ L h' m := by
    refine ⟨F.ns.at' fun o e => hk' L o (Ne.symm (N _ (.head _)).2.1) (Ne.symm (N _ (.tail _ (.head _))).2.1) e, fun b o e => hk' b o (fun q => ?_) (fun q => ?_) (F.keep b o e), F.above⟩
    · have := (N _ (.head _)).2.2; rw [q, this] at e; cases e
    · have := (N _ (.tail _ (.head _))).2.2; rw [q, this] at e; cases e
  refine h h' oD' tk' F1 (fun p hp => ?_) (fun h a ha => ⟨oD', es, ep, ha, hdD, hr⟩)
  rcases List.mem_cons.mp hp with rfl | hp
  · exact ⟨ho1, (N _ (.head _)).2⟩
  · rcases List.mem_cons.mp hp with rfl | hp
    · exact ⟨hoD, (N _ (.tail _ (.head _))).2⟩
    · exact ⟨hk' _ _ (hne p hp) (hnD p hp) (N p (.tail _ (.tail _ hp))).1, (N p (.tail _ (.tail _ hp))).2⟩
end
theorem meta_exception : typeOf (.type "Exception") = pure (.type "type") := by kernel_rfl
section
local macro_rules | `(tactic| walk_at "getMethod type:Exception") => `(tactic| (k_here; refine' method_type ?F ?X ?m (by decide +kernel) ?e ?h ?_; (case F => k_asm); (case X => k_asm); (case m => exact meta_exception); (case e => k_dflt k_is); (case h => k_handed)))
local macro_rules | `(tactic| walk_at "call builtin:Exception.__init__") => `(tactic| (k_here; k_dflt (refine' einit_K ?F ?X ?N ?n ?_; (case F => k_asm); (case X => k_asm); (case N => k_asm); (case n => assumption); k_whole); intro h' t' F' N'))
local macro_rules | `(tactic| walk_at "setAttr ref") => `(tactic| (k_here; k_dflt (refine' set1_K ?F ?X ?N ?n ?m ?_; (case F => k_asm); (case X => k_asm); (case N => k_asm); (case n => assumption); (case m => exact .inr rfl); k_whole); intro h' D' oD' tk' F' N' dX' dn' dm'))
local macro_rules | `(tactic| walk_at "setAttr ref") => `(tactic| (k_here; k_dflt (refine' set2_K ?F ?X ?N ?n ?d ?m ?D ?x ?w ?z ?_; (case F => k_asm); (case X => k_asm); (case N => k_asm); (case n => assumption); (case d => assumption); (case m => exact .inl rfl); (case D => assumption); (case x => assumption); (case w => exact PySem.Within.cons _ _ PySem.Within.nil); (case z => decide); k_whole); intro h' oD' tk' F' N' dX'))
theorem c_init (w : World) (mean mg mb) (e t0 : Addr) (what : Str) (tw ta : Tok) (at_ : Int) : ∀ (dp un : Nat) (gd : Option (List Code)) (cn : Str) (cs : Scope) (a : Addr) (ccd : Value) (cl : List (Str × Addr)) (outer : List Env) (A₀ : Around) (base h₀ : Heap) (L : Addr) (m : Str → Option Value) (news : Led) (s : Shared)
    (Q E : Value → Shared → Prop),
    Below A₀ base outer h₀ → Fr h₀ L s.heap m → (hd.heap_39 w.params).In h₀ → News h₀ L s.heap ((e, xob t0 none) :: news) → (∀ p ∈ news, p.1 ≠ e) → Top hd.view_39 (looseW hd.view_39 [Str.ofString "PostError"]) mean mg mb h₀ → cs.kind = .function → dp + 2 < recursionLimit → un + 20 < cLine →
    (∀ t1 D oD mA h' tk', Fr h₀ L h' m → News h₀ L h' ((e, xob t1 (some D)) :: (D, oD) :: news) → DictX oD mA → D ≠ e → (∃ u, mA (Str.ofString "at") = some (.int at_ u)) → Q .none { s with heap := h', toks := tk' }) →
    wpAny (model PySem.Challenge.rw_pq0938_01.row.prog w) (ktrTop dp un gd cn cs L a ccd cl outer) (call (.ref 29) [.ref e, .str what tw, .int at_ ta]) Q E s := by
  k_fill
  intro dp un gd cn cs a ccd cl outer A₀ base h₀ L m news s Q E B F X N hne T hk hd hu hret
  refine wpAny_call ?_
  k_dflt (refine' code_def ?k1 ?k2 ?k3 ?k4 ?k5 ?kA ?kF ?kK ?k6 ?k7 ?k8 ?k9 ?kB ?_ ?c2 ?c3 ?c4 ?c5; (case kA => exact rfl); (case kF => exact rfl); (case kK => assumption); (case k1 => k_asm); (case k2 => k_asm); (case k3 => k_asm); (case k4 => k_asm); (case k5 => k_asm); (case k6 => k_is); (case k7 => k_is); (case k8 => ktr_room); (case k9 => exact binds_K (X.keeps F.keep) rfl (by k_is) rfl rfl rfl); (case c5 => decide); (case kB => exact locs rfl); (case c2 => exact rfl); (case c3 => exact rfl); (case c4 => exact rfl); k_whole; intro g' L' h' FG' F' N' B' X' T'; (try dsimp only); (try k_lift B'); (try k_fold))
  k_steps
  exact hret _ _ _ _ _ _ (by assumption) (by assumption) (by assumption) (by assumption) ⟨_, if_pos rfl⟩
end
theorem c_name_fault (w : World) (mean mg mb) (what : Str) (tw ta : Tok) (at_ : Int) (dp un : Nat) (gd : Option (List Code)) (cn : Str) (cs : Scope) (a : Addr) (ccd : Value) (cl : List (Str × Addr)) (outer : List Env) (A₀ : Around) (base h₀ : Heap) (L : Addr) (m : Str → Option Value) (news : Led) (s : Shared)
    (Q E : Value → Shared → Prop)
    (B : Below A₀ base outer h₀) (F : Fr h₀ L s.heap m) (X : (hd.heap_39 w.params).In h₀) (N : News h₀ L s.heap news) (T : Top hd.view_39 (looseW hd.view_39 [Str.ofString "PostError"]) mean mg mb h₀) (hk : cs.kind = .function) (hd : dp + 4 < recursionLimit) (hu : un + 30 < cLine)
    (hret : ∀ e t1 D oD mA h' tk', Fr h₀ L h' m → News h₀ L h' ((e, xob t1 (some D)) :: (D, oD) :: news) → DictX oD mA → D ≠ e → (∃ u, mA (Str.ofString "at") = some (.int at_ u)) → (∀ p ∈ news, p.1 ≠ e) → Q (.ref e) { s with heap := h', toks := tk' }) :
    wpAny (model PySem.Challenge.rw_pq0938_01.row.prog w) (ktrTop dp un gd cn cs L a ccd cl outer) (call (.ref 64) [.str what tw, .int at_ ta]) Q E s := by
  obtain ⟨hp, g, d, t, os⟩ := s
  refine new_nf (X.keeps F.keep) (fun h' e hm => ?_) (by rw [PySem.sizeLine_eq]; show 2 ≤ _; decide)
  obtain ⟨t1, he, _, _⟩ := hm.there
  have hen : h₀.get? e = none := by
    cases q : h₀.get? e with
    | none => rfl
    | some o => have := F.keep _ _ q; rw [hm.new] at this; cases this
  have hne : ∀ p ∈ news, p.1 ≠ e := fun p hp q => by have := (N p hp).1; rw [q] at this; exact absurd (this.symm.trans hm.new) (fun h => nomatch h)
  have heL : e ≠ L := fun q => by
    obtain ⟨oL, _, _, hL, _⟩ := F.ns
    rw [← q] at hL; rw [hm.new] at hL; cases hL
  have N' : News h₀ L h' ((e, xob t1 none) :: news) := fun p hp => by
    rcases List.mem_cons.mp hp with rfl | hp
    · exact ⟨he, heL, hen⟩
    · exact ⟨hm.keeps _ _ (N p hp).1, (N p hp).2⟩
  show wpAny _ (ktrTop (dp + 1) (un + 1) _ cn cs L a ccd cl outer) _ _ _ _
  exact c_init w mean mg mb e t1 what tw ta at_ (dp + 1) (un + 1) _ cn cs a ccd cl outer A₀ base h₀ L m news _ _ _ B (F.keeps hm.keeps) X N' hne T hk (by omega) (by omega) fun t2 D oD mA h2 tk2 F2 N2 dX dn hat => ⟨rfl, hret e t2 D oD mA h2 tk2 F2 N2 dX dn hat hne⟩

end
-- Sta3
section
open PySem.Heap PySem.Calls PyProof.V PySem.Spec
set_option maxHeartbeats 8000000
section
variable {M : Model} {A : Around} {E : Value → Shared → Prop} {s' : Shared} {base g : Heap} {outer : List Env} {L a e t1 D : Addr} {oD : Obj} {mA : Str → Option Value} {m : Str → Option Value} {name : Str} {scope : Scope} {cd : Value} {Q : Unit → Shared → Prop} {news : Led} {at_ : Int}
/-- a NameFault raised in the frame leaves it -/
theorem leave_raiseN (K : Below A base outer g) (F : Fr g L s'.heap m) (N : News g L s'.heap ((e, xob t1 (some D)) :: (D, oD) :: news)) (dX : DictX oD mA) (hDe : D ≠ e) (hat : ∃ u, mA (Str.ofString "at") = some (.int at_ u)) (hne : ∀ p ∈ news, p.1 ≠ e)
    (hQ : ∀ h', RaisedX base outer e at_ news h' → g.UpToSlots h' → Q () { s' with heap := h' }) (hk : scope.kind = .function := by rfl) :
    wpAny M (A.deeper (envOf name scope L a cd)) (leaving (envOf name scope L a cd) (.ref e)) Q E s' := by
  have K' := K.push (name := name) (a := a) (cd := cd) F hk
  obtain ⟨u, hat⟩ := hat
  have he := N _ (.head _)
  have hD := N _ (.tail _ (.head _))
  have eF : e ∉ (envOf name scope L a cd :: outer).filterMap (·.frame) := fun hm => by
    obtain ⟨env, henv, hf⟩ := List.mem_filterMap.mp hm
    rcases List.mem_cons.mp henv with rfl | henv
    · exact he.2.1 (Option.some.inj hf).symm
    · obtain ⟨o, ho, _⟩ := (K.frames.mem (List.mem_filterMap.mpr ⟨env, henv, hf⟩)).2
      rw [he.2.2] at ho; cases ho
  have hin : ∀ env ∈ (envOf name scope L a cd :: outer), ∀ b, env.frame = some b → b ∈ e :: (envOf name scope L a cd :: outer).filterMap (·.frame) := fun env he b hb => .tail _ (List.mem_filterMap.mpr ⟨env, he, hb⟩)
  have st : base.StaysIn (hideAll s'.heap (e :: (envOf name scope L a cd :: outer).filterMap (·.frame))) := fun b o q => hideAll_get _ (K'.stays b o q) fun hm => by
    rcases List.mem_cons.mp hm with rfl | hm
    · rw [fresh_of_stays K.stays he.2.2] at q; cases q
    · rw [(K'.frames.mem hm).1] at q; cases q
  have hl : ∀ q ∈ news, (hideAll s'.heap (e :: (envOf name scope L a cd :: outer).filterMap (·.frame))).get? q.1 = some q.2 ∧ base.get? q.1 = none := fun q hq => by
    have Nq := N q (.tail _ (.tail _ hq))
    refine ⟨hideAll_get _ Nq.1 fun hm => ?_, fresh_of_stays K.stays Nq.2.2⟩
    rcases List.mem_cons.mp hm with h | hm
    · exact hne q hq h
    · obtain ⟨env, he, hf⟩ := List.mem_filterMap.mp hm
      rcases List.mem_cons.mp he with rfl | he
      · exact Nq.2.1 (Option.some.inj hf).symm
      · obtain ⟨o, ho, _⟩ := (K.frames.mem (List.mem_filterMap.mpr ⟨env, he, hf⟩)).2
        rw [Nq.2.2] at ho; cases ho
  refine leave_firstX (kPX D) K'.stack (funFrames_hide K'.frames hin) rfl he.1 (fun b o q => of_hideAll _ q) (hideAll_none _ (.head _)) rfl rfl ⟨rfl, rfl⟩ fun h' R u' => ?_
  refine hQ h' ⟨_, D, mA, u, st, hl, R, hDe, fun env henv hf => ?_, fresh_of_stays K.stays hD.2.2, uts_ns1 u' (dX _ _ hD.1), hat⟩ ((Heap.UpToSlots.of_keeps F.keep).trans u')
  obtain ⟨oo, hoo, _⟩ := (K.frames.mem (List.mem_filterMap.mpr ⟨env, henv, hf⟩)).2
  rw [hD.2.2] at hoo; cases hoo
end
section
variable {prog : Program} {w : World} {A : Around} {E : Value → Shared → Prop} {s : Shared} {env : Env}
/-- what a raise statement's value must be -/
structure RaiseOk (w : World) (E : Value → Shared → Prop) (v : Value) (s₁ : Shared) : Prop where
  is : ∃ e t1 D, v = .ref e ∧ (hd.heap_39 w.params).In s₁.heap ∧ s₁.heap.get? e = some (xob t1 (some D)) ∧ E (.ref e) s₁
theorem Raise_nf {c : Expr} {pos : Pos} {Q : Flow → Shared → Prop} (hh : A.handled = none) (h : wpAny (model prog w) A (eval c env) (RaiseOk w E) E s) : wpAny (model prog w) A (exec (.Raise (some c) none pos) env) Q E s := by
  have hcB : (Value.ref 64 :: nfBm).contains (.type "BaseException") = true := by decide +kernel
  rw [arm_exec_Raise]
  simp only [evalOpt, Option.map]
  refine wpAny_bind (wpAny_standAt ?_)
  unfold raiseStmt
  refine wpAny_bind (wpAny_bind (wpAny_mono h (fun v s₁ h₁ => wpAny_bind (wpAny_standAt (wpAny_pure ?_))) fun _ _ x => x))
  obtain ⟨e, t, D, rfl, X, he, hE⟩ := h₁.is
  have hC := X _ _ (lookNF w)
  obtain ⟨hp, g, d, tk, os⟩ := s₁
  repeat (first | with_reducible refine wpAny_loadPart_at he ?_ | with_reducible refine wpAny_loadPart_at hC ?_ | (with_reducible refine wpAny_isSubtype_exc hC ?_; rw [hcB]) | wp_step)
  exact wpAny_raiseNew_none hh hE
end

end
-- F_check
section
open PySem.Heap PySem.Calls PyProof.V PySem.Spec
set_option maxHeartbeats 8000000
def chkStep (c i b : Nat) : Except Nat Nat := if c = 47 then (if i = b then .error i else .ok (i + 1)) else if c = 37 ∨ c = 42 then .error i else if isBarred (c : Int) = true then .error i else .ok b
def chkTo (l : List Nat) : Nat → Except Nat Nat
  | 0 => .ok 0
  | i + 1 => match chkTo l i with | .error e => .error e | .ok b => chkStep (l.getD i 0) i b
def checkN (x : Str) : Option Nat := match chkTo x.cps.toList x.length with | .error e => some e | .ok b => if b = x.length then some b else none
/-- a contract of a call that may raise a NameFault -/
def ConR (w : World) (mean : ExcName → Option Value) (mg mb : Str → Option Value) (f : Addr) (dd uu : Nat) (vs : List Value) (res : Option Nat) (y : Str) : Prop :=
  ∀ (dp un : Nat) (gd : Option (List Code)) (cn : Str) (cs : Scope) (a : Addr) (ccd : Value) (cl : List (Str × Addr)) (outer : List Env) (A₀ : Around) (base h₀ : Heap) (L : Addr) (m : Str → Option Value) (news : Led) (s : Shared)
    (Q E : Value → Shared → Prop),
    Below A₀ base outer h₀ → Fr h₀ L s.heap m → (hd.heap_39 w.params).In h₀ → News h₀ L s.heap news → Top hd.view_39 (looseW hd.view_39 [Str.ofString "PostError"]) mean mg mb h₀ → cs.kind = .function → dp + dd < recursionLimit → un + uu < cLine →
    (res = none → ∀ t h' tk', Fr h₀ L h' m → News h₀ L h' news → Q (.str y t) { s with heap := h', toks := tk' }) →
    (∀ at_ e g h' tk', res = some at_ → RaisedX base (envX cn cs L a ccd cl :: outer) e (at_ : Int) news h' → Fr h₀ L g m → g.UpToSlots h' → E (.ref e) { s with heap := h', toks := tk' }) →
    wpAny (model PySem.Challenge.rw_pq0938_01.row.prog w) (ktrTop dp un gd cn cs L a ccd cl outer) (call (.ref f) vs) Q E s
theorem chk_err {l : List Nat} {i e : Nat} (h : chkTo l i = .error e) : ∀ k, chkTo l (i + k) = .error e := by
  intro k
  induction k with
  | zero => exact h
  | succ k ih => rw [← Nat.add_assoc, chkTo, ih]
theorem checkN_err {x : Str} {i e : Nat} (hi : i ≤ x.length) (h : chkTo x.cps.toList i = .error e) : checkN x = some e := by
  have := chk_err h (x.length - i)
  rw [Nat.add_sub_cancel' hi] at this
  unfold checkN; rw [this]
theorem checkN_ok {x : Str} {b : Nat} (h : chkTo x.cps.toList x.length = .ok b) : checkN x = if b = x.length then some b else none := by
  unfold checkN; rw [h]
theorem ck1 {c i : Nat} (h : c = 47) : chkStep c i i = .error i := by unfold chkStep; rw [if_pos h, if_pos rfl]
theorem ck2 {c i b : Nat} (h : c = 47) (h2 : ¬ i = b) : chkStep c i b = .ok (i + 1) := by unfold chkStep; rw [if_pos h, if_neg h2]
theorem ck3 {c i b : Nat} (h : ¬ c = 47) (h2 : c = 37 ∨ c = 42) : chkStep c i b = .error i := by unfold chkStep; rw [if_neg h, if_pos h2]
theorem ck4 {c i b : Nat} (h : ¬ c = 47) (h2 : ¬ (c = 37 ∨ c = 42)) (h3 : isBarred (c : Int) = true) : chkStep c i b = .error i := by unfold chkStep; rw [if_neg h, if_neg h2, if_pos h3]
theorem ck5 {c i b : Nat} (h : ¬ c = 47) (h2 : ¬ (c = 37 ∨ c = 42)) (h3 : isBarred (c : Int) = false) : chkStep c i b = .ok b := by unfold chkStep; rw [if_neg h, if_neg h2, if_neg (ne_true_of_eq_false h3)]
theorem RaisedX.sub {base h : Heap} {l : List Env} {e : Addr} {at_ : Int} {news news' : Led} (R : RaisedX base l e at_ news h) (k : ∀ p ∈ news', p ∈ news) : RaisedX base l e at_ news' h := by
  obtain ⟨B, D, mA, u, a, b, c⟩ := R
  exact ⟨B, D, mA, u, a, fun q hq => b q (k q hq), c⟩
structure CkSt where
  b : Nat
  t : Tok
section
local macro_rules | `(tactic| walk_at "RaiseOk") => `(tactic| (refine ⟨⟨_, _, _, rfl, ?X, ?H, ?_⟩⟩; (case X => exact Frag.In.keeps (by assumption) (Fr.keep (by assumption))); (case H => exact (News.get (by assumption) (.head _)))))
local macro_rules | `(tactic| walk_at "leaving ref") => `(tactic| (k_here; k_dflt (refine' leave_raiseN ?K ?F ?N ?d ?n ?h ?e ?_; (case F => assumption); (case K => assumption); (case N => assumption); (case d => assumption); (case n => assumption); (case h => assumption); (case e => assumption); k_whole); intro h' R' U'))
local macro_rules | `(tactic| walk_at "exec Raise some none") => `(tactic| (k_here; k_dflt (refine Raise_nf (by rfl) ?_)))
local macro_rules | `(tactic| walk_at "call ref") => `(tactic| (k_here; (with_reducible show wpAny _ _ (call (Value.ref 64) [Value.str _ _, Value.int _ _]) _ _ _); k_dflt (refine' c_name_fault _ _ _ _ _ _ _ _ _ _ _ _ _ _ _ _ _ _ _ _ _ _ _ _ _ _ ?k1 ?k2 ?k3 ?k4 ?k5 ?kK ?kd ?ku ?_; walk_at "mine ctx"); intro e9 t9 D9 oD9 mA9 h9 tk9 F9 N9 dX9 dn9 hat9 hne9))
local macro_rules | `(tactic| walk_at "call ref") => `(tactic| (k_here; (with_reducible show wpAny _ _ (call (Value.ref 158) [Value.int _ _]) _ _ _); k_dflt (refine' useB (c_is_barred _ _ _ _ _ _) ?k1 ?k2 ?k3 ?k4 ?k5 ?kK ?kd ?ku ?kp ?_); walk_at "mine ctx"; (case kp => trivial); intro t9 h9 tk9 F9 N9; (try dsimp only); (try k_fold)))
theorem c_check_name (w : World) (mean mg mb) (x : Str) (t : Tok) (hx : x.length ≤ 200) : ConR w mean mg mb 165 6 60 [.str x t] (checkN x) x := by
  unfold ConR
  k_fill
  intro dp un gd cn cs a ccd cl outer A₀ base h₀ L m news s Q E B F X N T hk hd hu hret hexc
  refine wpAny_call ?_
  k_dflt cell_enter
  k_steps
  unfold Hold
  rename_i g1 tk1 t1 u1 v1 R1 F1 N1 K1
  have hl : x.cps.toList.length = x.length := by simp [Str.length]
  refine for_range (σ := CkSt) (n := x.length) (fun _ => news) (fun c => [(Str.ofString "text", .str x t), (Str.ofString "begin", .int (c.b : Int) c.t)])
    (fun i c => chkTo x.cps.toList i = .ok c.b ∧ c.b ≤ i) ⟨0, _⟩ (by rfl) (by rfl) R1 (small_one (by omega) (by omega) (by omega) (by omega)) (range_to x.length) F1 N1 (by kst_all) ⟨rfl, Nat.le_refl _⟩ ?_ ?_
  · rintro i ti ⟨b, tb⟩ u I oI h tk hi ⟨hc, hb⟩ hlt hne F2 N2
    dsimp only at hc hb hne F2 N2
    have hi5 : (i : Int) < x.length := by omega
    have hit : Txt.item x (0 + (i : Int)) = ⟨#[x.cps.getD i 0]⟩ := by rw [Int.zero_add]; exact item_nat hi5
    have hs : chkTo x.cps.toList (i + 1) = chkStep (x.cps.toList.getD i 0) i b := by rw [chkTo, hc]
    have hg : x.cps.toList.getD i 0 = x.cps.getD i 0 := by rw [List.getD_eq_getElem?_getD, getD_some hi5, Option.getD_some]
    rw [hg] at hs
    have c47 : (Txt.item x (0 + (i : Int)) == Str.ofString "/") = true → x.cps.getD i 0 = 47 := fun h => by rw [hit, beq_sign cps_slash] at h; exact of_decide_eq_true h
    have n47 : (Txt.item x (0 + (i : Int)) == Str.ofString "/") = false → ¬ x.cps.getD i 0 = 47 := fun h => by rw [hit, beq_sign cps_slash] at h; exact of_decide_eq_false h
    have cw : (Builtin.Str.occurrences (Str.ofString "%*") (Txt.item x (0 + (i : Int))) 0 (Str.ofString "%*").length 1).isEmpty = false → (x.cps.getD i 0 = 37 ∨ x.cps.getD i 0 = 42) := fun h => by
      have := occ_yes hit h; rw [cps_wild] at this; simpa using this
    have nw : (Builtin.Str.occurrences (Str.ofString "%*") (Txt.item x (0 + (i : Int))) 0 (Str.ofString "%*").length 1).isEmpty = true → ¬ (x.cps.getD i 0 = 37 ∨ x.cps.getD i 0 = 42) := fun h => by
      have := occ_no hit h; rw [cps_wild] at this; simpa using this
    have cb : (Txt.item x (0 + (i : Int))).cps.getD 0 0 = x.cps.getD i 0 := by rw [hit]; rfl
    k_steps
    · rename_i e9 t9 D9 oD9 mA9 h9 tk9 F9 N9 dX9 dn9 hat9 hne9
      refine ⟨⟨_, _, _, rfl, Frag.In.keeps (by assumption) F9.keep, (N9 _ (.head _)).1, ?_⟩⟩
      refine leave_raiseN (by assumption) F9 N9 dX9 dn9 hat9 hne9 (fun h10 R10 U10 => ?_)
      have hib : i = b := by have : 0 + (i : Int) = (b : Int) := (by assumption); omega
      rw [Int.zero_add] at R10
      have R10 := R10.sub fun p hp => List.Mem.tail _ hp
      exact hexc i e9 _ _ _ (checkN_err (i := i + 1) (by omega) (by rw [hs, ← hib]; exact ck1 (c47 (by assumption)))) R10 (by assumption) U10
    · have hib : ¬ i = b := by have : 0 + (i : Int) ≠ (b : Int) := (by assumption); omega
      exact ForNext.intro ⟨i + 1, _⟩ (by assumption) (by assumption) (fun _ h => h) hne (by dsimp only; (try rw [show ((i + 1 : Nat) : Int) = 0 + (i : Int) + 1 by omega]); kst_all) ⟨by rw [hs]; exact ck2 (c47 (by assumption)) hib, Nat.le_refl _⟩
    · rename_i e9 t9 D9 oD9 mA9 h9 tk9 F9 N9 dX9 dn9 hat9 hne9
      refine ⟨⟨_, _, _, rfl, Frag.In.keeps (by assumption) F9.keep, (N9 _ (.head _)).1, ?_⟩⟩
      refine leave_raiseN (by assumption) F9 N9 dX9 dn9 hat9 hne9 (fun h10 R10 U10 => ?_)
      have hbar : isBarred ((Txt.item x (0 + (i : Int))).cps.getD 0 0 : Nat) = true := by assumption
      rw [cb] at hbar
      rw [Int.zero_add] at R10
      have R10 := R10.sub fun p hp => List.Mem.tail _ hp
      exact hexc i e9 _ _ _ (checkN_err (i := i + 1) (by omega) (by rw [hs]; exact ck4 (n47 (by assumption)) (nw (by assumption)) hbar)) R10 (by assumption) U10
    · have hbar : isBarred ((Txt.item x (0 + (i : Int))).cps.getD 0 0 : Nat) = false := by assumption
      rw [cb] at hbar
      exact ForNext.intro ⟨b, tb⟩ (by assumption) (by assumption) (fun _ h => h) hne (by kst_all) ⟨by rw [hs]; exact ck5 (n47 (by assumption)) (nw (by assumption)) hbar, Nat.le_succ_of_le hb⟩
    · rename_i e9 t9 D9 oD9 mA9 h9 tk9 F9 N9 dX9 dn9 hat9 hne9
      refine ⟨⟨_, _, _, rfl, Frag.In.keeps (by assumption) F9.keep, (N9 _ (.head _)).1, ?_⟩⟩
      refine leave_raiseN (by assumption) F9 N9 dX9 dn9 hat9 hne9 (fun h10 R10 U10 => ?_)
      rw [Int.zero_add] at R10
      have R10 := R10.sub fun p hp => List.Mem.tail _ hp
      exact hexc i e9 _ _ _ (checkN_err (i := i + 1) (by omega) (by rw [hs]; exact ck3 (n47 (by assumption)) (cw (by assumption)))) R10 (by assumption) U10
  · rintro ⟨b, tb⟩ u h tk ⟨hc, hb⟩ F2 N2
    dsimp only at hc hb F2 N2
    have hck := checkN_ok hc
    k_steps
    · rename_i e9 t9 D9 oD9 mA9 h9 tk9 F9 N9 dX9 dn9 hat9 hne9
      refine ⟨⟨_, _, _, rfl, Frag.In.keeps (by assumption) F9.keep, (N9 _ (.head _)).1, ?_⟩⟩
      refine leave_raiseN (by assumption) F9 N9 dX9 dn9 hat9 hne9 (fun h10 R10 U10 => ?_)
      have hbl : b = x.length := by have : (b : Int) = (x.length : Int) := (by assumption); omega
      exact hexc b e9 _ _ _ (by rw [hck, if_pos hbl]) R10 (by assumption) U10
    · have hbl : ¬ b = x.length := by have : (b : Int) ≠ (x.length : Int) := (by assumption); omega
      exact hret (by rw [hck, if_neg hbl]) _ _ _ (by assumption) (by assumption)
end

end
-- F_utf7
section
set_option maxHeartbeats 8000000
structure UtSt where
  i : Nat
  ti : Tok
  ws : List Value
  mm : Nat
def plainBytes (b : Array UInt8) : Prop := ∀ k ∈ b.toList, 32 ≤ k.toNat ∧ k.toNat ≤ 126 ∧ k.toNat ≠ 38
def textOf (b : Array UInt8) : Str := ⟨(b.toList.map (·.toNat)).toArray⟩
theorem bytes_at {prog : Program} {w : World} {A : Around} {E : Value → Shared → Prop} {s : Shared} {b : Array UInt8} {t u : Tok} {i : Nat} {Q : Value → Shared → Prop} (hb : b.size ≤ 1000) (h1 : i < b.size)
    (h : Q (.int ((b.toList.getD i 0).toNat : Nat) s.toks) { s with toks := s.toks + 1 }) : wpAny (model prog w) A (getItem (.bytes b t) (.int (i : Int) u)) Q E s := by
  have hl : b.toList.length = b.size := Array.length_toList
  have e : b = b.toList.toArray := (Array.toArray_toList).symm
  rw [e]
  exact getItem_bytes (by omega) (by omega) (by omega) (by rw [Int.toNat_natCast]; exact h)
theorem item_bytesB {prog : Program} {w : World} {A : Around} {E : Value → Shared → Prop} {s : Shared} {value slice : Expr} {b : Array UInt8} {t u : Tok} {i : Nat} {Q : Value → Shared → Prop} (hb : b.size ≤ 1000) (h1 : i < b.size)
    (h : Q (.int ((b.toList.getD i 0).toNat : Nat) s.toks) { s with toks := s.toks + 1 })
    (hs : subscripted slice false (.bytes b t) (.int (i : Int) u) = operate [.bytes b t, .int (i : Int) u] (getItem (.bytes b t) (.int (i : Int) u)) := by with_unfolding_all rfl)
    (ht : ∀ r, letTemporaryGo value (.bytes b t) r = pure () := by intro _; with_unfolding_all rfl) :
    wpAny (model prog w) A (subscriptTail value slice (.bytes b t) (.int (i : Int) u)) Q E s :=
  subscriptTail_builtin (typeIs_bytes _ _ _) FB.slot_bytes_getitem.lookup (bytes_at hb h1 h) hs ht
section
local macro_rules | `(tactic| walk_at "call ref") => `(tactic| (k_here; (with_reducible show wpAny _ _ (call (Value.ref 102) [Value.int _ _]) _ _ _); k_dflt (refine' useB (c_is_plain _ _ _ _ _ _) ?k1 ?k2 ?k3 ?k4 ?k5 ?kK ?kd ?ku ?kp ?_); walk_at "mine ctx"; (case kp => trivial); intro t9 h9 tk9 F9 N9; (try dsimp only); (try k_fold)))
theorem c_utf7_text (w : World) (mean mg mb) (b : Array UInt8) (t : Tok) (hb : b.size ≤ 200) (hp : plainBytes b) : ConS w mean mg mb 137 4 60 (fun _ => True) [.bytes b t] (textOf b) := by
  try unfold ConS
  try unfold ConB
  try unfold ConI
  try unfold ConO
  unfold Con
  k_fill
  intro dp un gd cn cs a ccd cl outer A₀ base h₀ L m news s Q E B F X N T hk hd hu hp2 hret
  refine wpAny_call ?_
  k_dflt cell_enter
  k_steps
  unfold Hold

  rename_i D hA l1 hB hC h1 F1 N1
  refine while_st (σ := UtSt) (fun c => (D, listOf c.ws.toArray c.mm) :: news) (fun c => [(Str.ofString "octets", .bytes b t), (Str.ofString "pieces", .ref D), (Str.ofString "at", .int (c.i : Int) c.ti)])
      (fun c => c.i ≤ b.size ∧ StrsAre c.ws (((b.toList.map (·.toNat)).take c.i).map fun c => (⟨#[c]⟩ : Str))) (fun c => b.size - c.i) ⟨0, _, [], 0⟩ F1 N1 (by kst_all) ⟨Nat.zero_le _, .nil⟩ ?_
  rintro ⟨i, ti, ws, mm⟩ u2 h2 tk2 ⟨hi, hw⟩ F4 N4
  dsimp only at hi hw F4 N4
  have hwl := hw.length
  k_steps
  refine WhTest.of (fun hit => ?_) (fun hit => ?_)
  · have hit := of_decide_eq_true hit
    have hib : i < b.size := by omega
    have hlb : b.toList.length = b.size := Array.length_toList
    have hpl : 32 ≤ (b.toList.getD ((i : Int)).toNat 0).toNat ∧ (b.toList.getD ((i : Int)).toNat 0).toNat ≤ 126 ∧ (b.toList.getD ((i : Int)).toNat 0).toNat ≠ 38 := by
      rw [Int.toNat_natCast]
      exact hp (b.toList.getD i 0) (by rw [List.getD_eq_getElem?_getD, List.getElem?_eq_getElem (by omega)]; exact List.getElem_mem _)
    have hplain : isPlain (((b.toList.getD ((i : Int)).toNat 0).toNat : Nat) : Int) = true := by unfold isPlain; simp only [Bool.and_eq_true, decide_eq_true_eq]; omega
    have hat : (b.toList.map (·.toNat))[i]? = some (b.toList.getD ((i : Int)).toNat 0).toNat := by
      rw [Int.toNat_natCast, List.getElem?_map, List.getD_eq_getElem?_getD, List.getElem?_eq_getElem (by omega)]; rfl
    k_steps
    · (rename News _ _ _ _ => N9); (try simp only [List.push_toArray] at N9)
      exact WhNext.intro ⟨i + 1, _, ws ++ [.str ⟨#[(b.toList.getD ((i : Int)).toNat 0).toNat]⟩ _], mm + 1⟩ (by assumption) N9 (fun _ h => h) (by kst_all) ⟨by dsimp only; omega, strs_next hw hat⟩ (by dsimp only; omega)
    · exfalso; omega
  · have hit := of_decide_eq_false hit
    have hib : i = b.size := by omega
    k_steps
    have hall : List.take i (b.toList.map (·.toNat)) = b.toList.map (·.toNat) := List.take_of_length_le (by rw [List.length_map, Array.length_toList]; omega)
    rw [hall] at hw
    refine join_listW (News.isList (by assumption) (.head _)) hw (by decide +kernel) (by rw [sum_ones]; simp only [List.length_map, Array.length_toList]; omega) ?_
    intro t9 k9
    rw [show Txt.join (Str.ofString "") (List.map (fun c => (⟨#[c]⟩ : Str)) (b.toList.map (·.toNat))) = textOf b from (StrLaws.glued_eq_join _ _).trans (join_signs _)]
    k_steps
    exact hret _ [] _ _ (by k_asm) (cb_drop (by assumption) (by intro _ hp; repeat (first | exact hp | refine List.Mem.tail _ ?_))) lt_nil ⟨rfl, _, rfl⟩
end

end
-- F_wire
open PySem.Heap PySem.Calls PyProof.V PySem.Spec
local macro_rules | `(tactic| walk_at "call ref") => `(tactic| (k_here; (with_reducible show wpAny _ _ (call (Value.ref 151) [Value.str _ _]) _ _ _); k_dflt (refine' useS (c_normal_name _ _ _ _ _ _ ?hx) ?k1 ?k2 ?k3 ?k4 ?k5 ?kK ?kd ?ku ?kp ?_); walk_at "mine ctx"; (case kp => trivial); (case hx => first | assumption | omega); intro t9 h9 tk9 F9 N9; (try dsimp only); (try k_fold)))
section
open PySem.Heap PySem.Calls PyProof.V PySem.Spec
set_option maxHeartbeats 8000000
set_option maxHeartbeats 1000000
theorem textOf_len (b : Array UInt8) : (textOf b).length = b.size := by unfold textOf Str.length; simp
theorem normS_len (x : Str) : (normS x).length ≤ x.length + 5 := by
  unfold normS
  split
  · rw [Str.length_append]
    have := restS_le x
    have h : (Str.ofString "INBOX").length = 5 := by decide +kernel
    omega
  · omega
section
local macro_rules | `(tactic| walk_at "call ref") => `(tactic| (k_here; (with_reducible show wpAny _ _ (call (Value.ref 137) [Value.bytes _ _]) _ _ _); k_dflt (refine' useS (c_utf7_text _ _ _ _ _ _ ?hx ?hy) ?k1 ?k2 ?k3 ?k4 ?k5 ?kK ?kd ?ku ?kp ?_); walk_at "mine ctx"; (case kp => trivial); (case hx => first | assumption | omega); (case hy => assumption); intro t9 h9 tk9 F9 N9; (try dsimp only); (try k_fold)))
local macro_rules | `(tactic| walk_at "call ref") => `(tactic| (k_here; (with_reducible show wpAny _ _ (call (Value.ref 165) [Value.str _ _]) _ _ _); k_dflt (refine' c_check_name _ _ _ _ _ _ ?hx _ _ _ _ _ _ _ _ _ _ _ _ _ _ _ _ _ _ ?k1 ?k2 ?k3 ?k4 ?k5 ?kK ?kd ?ku ?_ ?_; walk_at "mine ctx"; (case hx => first | assumption | omega))))
theorem c_name_of_wire (w : World) (mean mg mb) (b : Array UInt8) (t : Tok) (hb : b.size ≤ 100) (hp : plainBytes b) : ConR w mean mg mb 172 8 80 [.bytes b t] (checkN (normS (textOf b))) (normS (textOf b)) := by
  unfold ConR
  k_fill
  intro dp un gd cn cs a ccd cl outer A₀ base h₀ L m news s Q E B F X N T hk hd hu hret hexc
  have hl1 := textOf_len b
  have hl2 := normS_len (textOf b)
  refine wpAny_call ?_
  k_dflt cell_enter
  k_steps
  · exact hret (by assumption) _ _ _ (by assumption) (by assumption)
  · rename_i at9 e9 g9 h9 tk9 hr R9 F9 U9
    refine leave_onXK (by assumption) F9 R9 U9 (fun h10 R10 U10 => ?_)
    exact hexc at9 e9 _ _ _ hr R10 (by assumption) U10
end
def asciiS (x : Str) : Prop := ∀ c ∈ x.cps.toList, 32 ≤ c ∧ c ≤ 126 ∧ c ≠ 38
/-- what the law has from the wire -/
def wireS (x : Str) : Str × Int := match checkN (normS x) with | none => (normS x, -1) | some k => (Str.ofString "", (k : Int))
theorem got_at {prog : Program} {w : World} {A : Around} {E : Value → Shared → Prop} {s : Shared} {h₀ : Heap} {L e D : Addr} {oe oD : Obj} {m : Str → Option Value} {news : Led} {at_ : Int} {expr : Bool} {Q : Value → Shared → Prop} (F : Fr h₀ L s.heap m) (X : (hd.heap_39 w.params).In h₀) (N : News h₀ L s.heap ((e, oe) :: (D, oD) :: news)) (G : GotX oe oD e D at_)
    (h : ∀ u, Q (.int at_ u) { s with toks := s.toks + 1 }) : wpAny (model prog w) A (getAttr (.ref e) "at" expr) Q E s := by
  obtain ⟨h1, h2, ⟨vs, h3⟩, h4, mA, u, h5, h6⟩ := G
  exact get_nf (X.keeps F.keep) ⟨oe, (N _ (.head _)).1, h1, (fun c e => by rw [h3] at e; cases e), .inr ⟨D, h2, h4, h5 _ _ (N _ (.tail _ (.head _))).1⟩⟩ h6 (by rfl) (h u)
def bytesOf (x : Str) : Array UInt8 := ((x.cps.toList.map fun c : Nat => (c : Int)).map fun n => n.toNat.toUInt8).toArray
theorem u8_nat {c : Nat} (h : c ≤ 126) : (c.toUInt8).toNat = c := by
  rw [Nat.toUInt8, UInt8.toNat_ofNat']; omega
theorem bytesOf_list (x : Str) : (bytesOf x).toList = x.cps.toList.map fun c => c.toUInt8 := by
  unfold bytesOf
  simp [List.map_map]
theorem bytesOf_size (x : Str) : (bytesOf x).size = x.length := by rw [← Array.length_toList, bytesOf_list, List.length_map, Array.length_toList]; rfl
theorem bytes_plain {x : Str} (hp : asciiS x) : plainBytes (bytesOf x) := by
  intro k hk
  rw [bytesOf_list] at hk
  obtain ⟨c, hc, rfl⟩ := List.mem_map.mp hk
  have := hp c hc
  rw [u8_nat this.2.1]; exact this
theorem textOf_bytes {x : Str} (hp : asciiS x) : textOf (bytesOf x) = x := by
  unfold textOf
  rw [bytesOf_list, List.map_map]
  have : (List.map ((fun x => x.toNat) ∘ fun c => c.toUInt8) x.cps.toList) = x.cps.toList := by
    conv => rhs; rw [← List.map_id x.cps.toList]
    exact List.map_congr_left fun c hc => u8_nat (hp c hc).2.1
  rw [this, Array.toArray_toList]

end
-- Sta4
section
open PySem.Heap PySem.Calls PyProof.V PySem.Spec
set_option maxHeartbeats 8000000
section
variable {prog : Program} {w : World} {A₀ A : Around} {s : Shared} {base h₀ : Heap} {outer : List Env} {L : Addr} {m : Str → Option Value} {env : Env} {news : List (Addr × Obj)} {K : Frag} {p : Program} {loose : List Str} {mean : ExcName → Option Value} {mg mb : Str → Option Value}
  {R : Result → Shared → Prop} {name qual : Str} {params : Arguments} {body : List Stmt} {scope : Scope} {dV kV doc pm cdv ct oc : Value} {an od : Option Addr} {osl : Array (Option Value)} {f : Addr} {args : Args} {binds : List (Str × Value)}
/-- a call that may catch: the caller's own frame is at hand in the body -/
theorem code_defT (B : Below A₀ base outer h₀) (F : Fr h₀ L s.heap m) (X₀ : K.In h₀) (N : News h₀ L s.heap news) (T : Top p loose mean mg mb h₀) (hA : A.frames = some (env :: outer)) (hf : env.frame = some L) (hke : env.scope.kind = .function)
    (ho : K.lookup f = some ⟨oc, od, .func (fnOf name qual params body scope dV kV doc pm an cdv ct), osl⟩) (hcd : codeIn K cdv qual = true) (hroom : A.depth < recursionLimit)
    (hbind : BindsTo s (fnOf name qual params body scope dV kV doc pm an cdv ct) args binds) (hloc : ∀ y ∈ binds, scope.names.lookup y.1 = some .local)
    (h : ∀ g L' h₁, Fr h₀ L g m → Fr g L' h₁ (fun y => binds.reverse.lookup y) → News g L' h₁ news → Below A base (env :: outer) g → K.In g → Top p loose mean mg mb g → h₀.StaysIn g → (∀ v s', LeaveK h₀ L m g R v s' → R (.ok (.ret v)) s') → @Ne Nat L L' → @LE.le Nat _ h₀.objs.size L' →
      wpAny (model prog w) (A.deeper (envOf qual scope L' f cdv)) (execs body (envOf qual scope L' f cdv))
        (fun fl s' => R (.ok (.ret (match fl with | .ret v => v | _ => .none))) s')
        (fun e s' => wpAny (model prog w) (A.deeper (envOf qual scope L' f cdv)) (leaving (envOf qual scope L' f cdv) e) (fun _ s'' => R (.error e) s'') (fun e' s'' => R (.error e') s'') s')
        { s with heap := h₁, toks := s.toks + binds.length })
    (hco : scope.isCoroutine = false) (hgen : scope.isGenerator = false) (hk : scope.kind = .function)
    (hcell : ∀ x ∈ scope.names, x.2 ≠ .cell) : codeAny (model prog w) A (.call (.ref f) args) R s := by
  obtain ⟨FG, BG, st, lv⟩ := groundX (R := R) B F N hA hf hke
  refine codeAny_call_def (fd := fnOf name qual params body scope dV kV doc pm an cdv ct) (body := body) (binds := binds) hroom ((X₀.keeps F.keep) _ _ ho) rfl (T.nolimit.keeps F.keep) (codeRec_of (X₀.keeps F.keep) hcd) rfl hbind hcell hloc (fun h₁ hns hk₁ => ?_) hco hgen hk
  exact wpAny_mono (h _ s.heap.objs.size h₁ FG ⟨hns, fun b o e => hk₁ b o (of_hideAll _ e), Nat.le_of_eq (hideAll_size _ _)⟩
    (fun p hp => ⟨hk₁ _ _ (N p hp).1, Nat.ne_of_lt (Heap.lt_size (N p hp).1), hideAll_none _ (List.mem_map_of_mem hp)⟩) BG (X₀.keeps st) (T.keeps st) st lv (Nat.ne_of_lt F.ns.lt) (Nat.le_trans F.above (Nat.le_of_lt F.ns.lt))) (fun _ _ y => y) fun _ _ y => y
end
section
variable {prog : Program} {w : World} {A₀ : Around} {E : Value → Shared → Prop} {s' : Shared} {h₀ h : Heap} {outer : List Env} {L L2 a e : Addr} {m m2 : Str → Option Value} {name : Str} {scope : Scope} {cd : Value}
  {n : Str} {b₀ : Stmt} {suite : List Stmt} {pos np : Pos} {rest : List ExceptHandler} {Q : Flow → Shared → Prop} {news : Led} {KF : Frag} {p : Program} {loose : List Str} {mg mb : Str → Option Value} {x : Str} {at_ : Int}
  {nm q : Str} {N : Addr} {bs bm : List Value} {hdct : Bool} {sn : List Str} {sub : List Value} {ab : Bool} {col : Option Bool} {dd : Option Addr} {k0 k1 k2 k3 k5 : Option Value} {newId : String}
/-- an object that is a frame's locals -/
def LocO (o : Obj) (m : Str → Option Value) : Prop := ∀ (h : Heap) a, h.get? a = some o → h.Ns a m
theorem caught_X2 (hfr : A₀.frames = some outer) (F : Fr h₀ L h m) (F2 : Fr h₀ L2 h m2) (ne : @Ne Nat L2 L) (hsm : h.UpToSlots s'.heap) (R : RaisedX h₀ (envOf name scope L a cd :: outer) e at_ news s'.heap)
    (X : KF.In h₀) (T : TopRead p loose mg mb h₀) (ex : nsIn KF mainGlobals x = some (some (.ref 64))) (hC : KF.lookup 64 = some (excClassObj nm q 64 N bs bm hdct sn sub ab col dd k0 k1 k2 k3 k5 newId)) (hbase : bm.contains (.type "BaseException") = true)
    (k : ∀ h' D oe oD oL tk, Fr h₀ L h' (fun y => if y = n then some (.ref e) else m y) → News h₀ L h' ((e, oe) :: (D, oD) :: (L2, oL) :: news) → GotX oe oD e D at_ → LocO oL m2 →
      wpAny (model prog w) ((A₀.deeper (envOf name scope L a cd)).mark (some (.ref e))) (execs (b₀ :: suite) (envOf name scope L a cd))
        (fun f s₄ => wpAny (model prog w) (A₀.deeper (envOf name scope L a cd)) (do bindName (envOf name scope L a cd) n .none; unbindBehindTheSuite (envOf name scope L a cd) n pos) (fun _ s₅ => Q f s₅) E s₄)
        (AsSuiteRaised (model prog w) ((A₀.deeper (envOf name scope L a cd)).mark (some (.ref e))) (envOf name scope L a cd) n pos (notedBy (model prog w) ((A₀.deeper (envOf name scope L a cd)).mark (some (.ref e))) (envOf name scope L a cd) (cameBackBy (model prog w) (A₀.deeper (envOf name scope L a cd)) (envOf name scope L a cd) E)))
        { s' with heap := h', toks := tk })
    (hk : scope.kind = .function := by rfl) (hlo : (envOf name scope L a cd).kindOf n = some .local := by rfl) (hx : (envOf name scope L a cd).kindOf x = some .globalImplicit := by rfl) (hd : (x == ("__debug__" : Str)) = false := by decide) :
    wpAny (model prog w) (A₀.deeper (envOf name scope L a cd)) (noteFrame (.ref e) (envOf name scope L a cd))
      (fun _ s₂ => wpAny (model prog w) (A₀.deeper (envOf name scope L a cd)) (setFlight (.ref e) none) (fun _ s₃ =>
        wpAny (model prog w) (A₀.deeper (envOf name scope L a cd)) (handleBy (.ref e) (envOf name scope L a cd) (.ExceptHandler (some (.Name x np)) (some n) (b₀ :: suite) pos :: rest)) Q E s₃) E s₂) E s' := by
  obtain ⟨B, D, mA, u, hB, hl, hfl, hDe, hDf, hDb, hns, hat⟩ := R
  have hL : B.get? L = none := by
    obtain ⟨_, ⟨L', _, hf, hn', _⟩, _⟩ := hfl.2.2.1
    obtain rfl : L = L' := Option.some.inj hf
    exact hn'
  have hDL : D ≠ L := fun q => hDf _ (.head _) (by rw [q]; rfl)
  refine note_onX (kPX D) (Around.frames_deeper hfr) rfl hfl fun h₄ ⟨n1, n2, n3, n4⟩ => ?_
  refine flightX (P := PX D) ⟨n1, hfl.2.1, n2, n3⟩ fun h₅ hfl5 hsm₅' => ?_
  have hsm₅ := n4.trans hsm₅'
  have hfl5' := flX_base hB hfl5
  have F₅ := F.of_stays hfl5'.1 (hsm.trans hsm₅)
  obtain ⟨ob, vs5, T5, oT5, ts5, hob, hobP, _⟩ := hfl5.2.2.2
  refine wpAny_handleBy_cons (codeAny_handlers_test (name_K F₅ X T ex ?_ hk hx hd)) (by intro q; cases q)
  refine wpAny_excMatches_sub_self (F₅.keep _ _ (X _ _ hC)) hob hobP.1 hbase (codeAny_handlers_suite_as ?_)
  refine flightX hfl5 fun h₆ hfl₆ hsm₆ => ?_
  have hfl₆' := flX_base hB hfl₆
  have hsmA := (hsm.trans hsm₅).trans hsm₆
  have F₆ := F.of_stays hfl₆'.1 hsmA
  obtain ⟨oL, esL, epL, hoL, hLd, hLk, hLf⟩ := (F2.of_stays hfl₆'.1 hsmA).ns
  obtain ⟨oe, vs6, T6, oT6, ts6, hoe, hoeP, hoed, _⟩ := hfl₆.2.2.2
  have hns6 := uts_ns1 hsm₆ (uts_ns1 hsm₅ hns)
  obtain ⟨oD, esD, epD, hoD, hdD, hrD⟩ := hns6
  have N₆ : News h₀ L h₆ ((e, oe) :: (D, oD) :: (L2, oL) :: news) := fun q hq => by
    rcases List.mem_cons.mp hq with rfl | hq
    · exact News.more F₆ News.nil hoe (fun es n q => by rw [hoed] at q; cases q) hfl₆'.2.1 _ (.head _)
    · rcases List.mem_cons.mp hq with rfl | hq
      · exact ⟨hoD, hDL, hDb⟩
      · rcases List.mem_cons.mp hq with rfl | hq
        · exact ⟨hoL, ne, Heap.get?_none_of_le F2.above⟩
        · exact ⟨hfl₆.1 _ _ (hl q hq).1, (fun z => by have := (hl q hq).1; rw [z, hL] at this; cases this), (hl q hq).2⟩
  refine stN F₆ N₆ (fun h₇ F₇ N₇ => ?_) hk hlo
  exact k h₇ D oe oD oL _ F₇ N₇ ⟨hoeP.1, hoeP.2, ⟨_, hoed⟩, hDe, mA, u, fun h a ha => ⟨oD, esD, epD, ha, hdD, hrD⟩, hat⟩ (fun h a ha => ⟨oL, esL, epL, ha, hLd, hLk, hLf⟩)
end

end
-- F_from
section
open PySem.Heap PySem.Calls PyProof.V PySem.Spec
set_option maxHeartbeats 8000000
set_option maxHeartbeats 1000000
section
local macro_rules | `(tactic| walk_at "getAttr ref") => `(tactic| (k_here; k_dflt (refine' got_at ?F ?X ?N ?G ?_; (case G => assumption); (case F => k_asm); (case X => k_asm); (case N => k_asm); k_whole); intro u'))
local macro_rules | `(tactic| walk_at "call ref") => `(tactic| (k_here; (with_reducible show wpAny _ _ (call (Value.ref 172) [Value.bytes _ _]) _ _ _); k_dflt (refine' c_name_of_wire _ _ _ _ _ _ ?hx ?hy _ _ _ _ _ _ _ _ _ _ _ _ _ _ _ _ _ _ ?k1 ?k2 ?k3 ?k4 ?k5 ?kK ?kd ?ku ?_ ?_; walk_at "mine ctx"; (case hx => first | assumption | omega); (case hy => assumption))))
local macro_rules | `(tactic| walk_at "eval ListComp") => `(tactic| (k_here; k_dflt (refine ListComp_S (F₀ := by k_asm) (by with_unfolding_all rfl) (by decide) (by rfl) (by decide) (by rfl) ?_)))
theorem allLt_all : ∀ {l : List (Addr × Obj)} {d : Addr}, AllLt d l → ∀ p ∈ l, p.1 < d
  | [], _, _ => fun _ h => nomatch h
  | _ :: _, _, h => List.forall_mem_cons.mpr ⟨h.1, allLt_all h.2⟩
/-- a contract over a law's own frame, at the bottom of the stack -/
def ConT (w : World) (mean : ExcName → Option Value) (mg mb : Str → Option Value) (f : Addr) (dd uu : Nat) (vs : List Value) (Out : Value → Led → Prop) : Prop :=
  ∀ (dp un : Nat) (gd : Option (List Code)) (cn : Str) (cs : Scope) (a : Addr) (ccd : Value) (cl : List (Str × Addr)) (A₀ : Around) (h₀ : Heap) (L : Addr) (m : Str → Option Value) (news : Led) (s : Shared)
    (Q E : Value → Shared → Prop),
    Below A₀ h₀ [] h₀ → Fr h₀ L s.heap m → (hd.heap_39 w.params).In h₀ → News h₀ L s.heap news → Top hd.view_39 (looseW hd.view_39 [Str.ofString "PostError"]) mean mg mb h₀ → cs.kind = .function → dp + dd < recursionLimit → un + uu < cLine →
    (∀ r tl h' tk', Fr h₀ L h' m → News h₀ L h' (tl ++ news) → (∀ q ∈ news, ∀ p ∈ tl, q.1 < p.1) → Out r tl → Q r { s with heap := h', toks := tk' }) →
    wpAny (model PySem.Challenge.rw_pq0938_01.row.prog w) (ktrTop dp un gd cn cs L a ccd cl []) (call (.ref f) vs) Q E s
theorem c_from_wire (w : World) (mean mg mb) (x : Str) (t : Tok) (hx : x.length ≤ 50) (hp : asciiS x) : ConT w mean mg mb 255 12 120 [.str x t] (fun r tl => ∃ D o t u, r = .ref D ∧ tl = [(D, o)] ∧ o = tupOf [.str (wireS x).1 t, .int (wireS x).2 u]) := by
  unfold ConT
  k_fill
  intro dp un gd cn cs a ccd cl A₀ h₀ L m news s Q E B F X N T hk hd hu hret
  refine wpAny_call ?_
  k_dflt (refine' code_defT ?k1 ?k2 ?k3 ?k4 ?k5 ?kA ?kF ?kK ?k6 ?k7 ?k8 ?k9 ?kB ?_ ?c2 ?c3 ?c4 ?c5; (case kA => exact rfl); (case kF => exact rfl); (case kK => assumption); (case k1 => k_asm); (case k2 => k_asm); (case k3 => k_asm); (case k4 => k_asm); (case k5 => k_asm); (case k6 => k_is); (case k7 => k_is); (case k8 => ktr_room); (case k9 => exact BindsTo.of_eq rfl); (case c5 => decide); (case kB => exact locs rfl); (case c2 => exact rfl); (case c3 => exact rfl); (case c4 => exact rfl); k_whole; intro g' L' h' FG' F' N' B' X' T' ST' lv' ne' le'; (try dsimp only); (try k_fold))
  k_steps
  refine SrcS.of (by rfl) (by k_asm) (by k_asm) (by show x.length ≤ _; rw [PySem.sizeLine_eq]; omega) ?_
  intro g
  refine rest_inv (fun i ys nw => nw = news ∧ IntsAre ys (List.map (fun c : Nat => (c : Int)) (x.cps.toList.take i))) ⟨rfl, .nil⟩ ?_ ?_
  · rintro i v I oI C oC D m₂ ys nw h tk E' hi ⟨c, u, hc, rfl⟩ ⟨rfl, hS⟩ hC hx2 F2 N2 off ne
    k_steps
    exact LCg.CompEnd.intro F2 N2 _ (fun _ hp => hp) off trivial ⟨rfl, ints_next (f := fun c : Nat => (c : Int)) hS (by rw [Array.getElem?_toList]; exact hc)⟩
  · rintro ys nw ⟨rfl, hS⟩
    k_steps
    rename Fr _ _ _ _ => F3
    rename News _ _ _ _ => N3
    rw [List.take_of_length_le (by rw [Array.length_toList]; exact Nat.le_refl _)] at hS
    have hyl : ys.length = x.length := (hS.length.trans (List.length_map _)).trans Array.length_toList
    refine bytes_K (vs := ys) F3 N3 (News.isList N3 (.head _)) hS (fun n hn => ?_) (by rw [PySem.sizeLine_eq, hyl]; omega) (by rfl) ?_
    · obtain ⟨c, hc, rfl⟩ := List.mem_map.mp hn
      have := hp c hc
      omega
    intro h4 t4 k4 F4 N4 _
    have hb1 := bytesOf_size x
    have hb2 := bytes_plain hp
    have hb3 := textOf_bytes hp
    have hb4 : (bytesOf x).size ≤ 100 := by omega
    unfold bytesOf at hb1 hb2 hb3 hb4
    k_steps
    · rename_i hr t5 h5 tk5 D6 h6 F6 N6 l6
      refine lv' _ _ (leaveK_ F6 N6 fun kF kN => ?_)
      have hw : wireS x = (normS x, -1) := by
        unfold wireS
        rw [← hb3, hr]
      have end6 : ∀ o6 u6 tk6, (D6, o6) ∈ _ → o6 = tupOf [.str (normS (textOf _)) t5, .int (-1) u6] → Q (.ref D6) { s with heap := h6, toks := tk6 } := fun o6 u6 tk6 hm he => hret (.ref D6) [(D6, o6)] h6 tk6 kF (cb_drop kN (fun q hq => by
        rcases List.mem_cons.mp hq with rfl | hq
        · exact hm
        · exact .tail _ (.tail _ hq))) (lt_one (allLt_all l6.2)) ⟨D6, o6, t5, u6, rfl, rfl, by rw [hw, ← hb3, he, hb3]⟩
      exact end6 _ _ _ (.head _) rfl
    · rename_i at9 e9 g9 h9 tk9 hr R9 F9 U9
      refine caught_X2 rfl ⟨F9.ns, fun b o q => F9.keep b o (ST' b o q), le'⟩ ⟨FG'.ns.keeps F9.keep, fun b o q => F9.keep b o (ST' b o q), FG'.above⟩ ne' U9 R9 X (topRead_of T) (by k_ownname) (lookNF w) (by decide +kernel) ?_
      intro h10 D10 oe oD10 oL10 tk10 F10 N10 G10 LO10
      clear B' X' T' ST' lv' F9 U9 R9
      k_steps
      rename_i D11 h11 F11 nwX l11 h12 v12 xx hs12
      have nL : ∀ q ∈ nw, q.1 ≠ L := fun q hq => (N q hq).2.1
      have hw : wireS x = (Str.ofString "", (at9 : Int)) := by
        unfold wireS
        rw [← hb3, hr]
      have kF : Fr h₀ L h12 m := ⟨LO10 _ _ (hs12 _ (.tail _ (.tail _ (.tail _ (.head _))))).1, xx.keep, F.above⟩
      have end6 : ∀ o6 u6 tk6, (D11, o6) ∈ _ → o6 = tupOf [.str (Str.ofString "") tk10, .int (at9 : Int) u6] → Q (.ref D11) { s with heap := h12, toks := tk6 } := fun o6 u6 tk6 hm he => hret (.ref D11) [(D11, o6)] h12 tk6 kF (fun q hq => by
        rcases List.mem_cons.mp hq with rfl | hq
        · exact ⟨(hs12 _ hm).1, Nat.ne_of_gt l11.2.2.1, (hs12 _ hm).2.2⟩
        · have := hs12 q (.tail _ (.tail _ (.tail _ (.tail _ (.tail _ hq)))))
          exact ⟨this.1, nL q hq, this.2.2⟩) (lt_one (allLt_all l11.2.2.2.2)) ⟨D11, o6, tk10, u6, rfl, rfl, by rw [hw, he]⟩
      exact end6 _ _ _ (.head _) rfl
end

end
-- F_draw
section
set_option maxHeartbeats 8000000

/-- a contract that turns one object of the ledger -/
def ConU (w : World) (mean : ExcName → Option Value) (mg mb : Str → Option Value) (f : Addr) (dd uu : Nat) (l : Addr) (od : Obj) (vs : List Value) (Out : Value → Obj → Prop) : Prop :=
  ∀ (dp un : Nat) (gd : Option (List Code)) (cn : Str) (cs : Scope) (a : Addr) (ccd : Value) (cl : List (Str × Addr)) (outer : List Env) (A₀ : Around) (base h₀ : Heap) (L : Addr) (m : Str → Option Value) (news : Led) (s : Shared)
    (Q E : Value → Shared → Prop),
    Below A₀ base outer h₀ → Fr h₀ L s.heap m → (hd.heap_39 w.params).In h₀ → News h₀ L s.heap ((l, od) :: news) → (∀ p ∈ news, p.1 ≠ l) → Top hd.view_39 (looseW hd.view_39 [Str.ofString "PostError"]) mean mg mb h₀ → cs.kind = .function → dp + dd < recursionLimit → un + uu < cLine →
    (∀ r o' h' tk', Fr h₀ L h' m → News h₀ L h' ((l, o') :: news) → Out r o' → Q r { s with heap := h', toks := tk' }) →
    wpAny (model PySem.Challenge.rw_pq0938_01.row.prog w) (ktrTop dp un gd cn cs L a ccd cl outer) (call (.ref f) vs) Q E s
def tapeOf (d sd k : Int) (o : Obj) : Prop := ∃ t1 t2 t3 n, o = listOf #[.int d t1, .int sd t2, .int k t3] n
theorem pow_bnd {sd k : Int} (hs0 : 0 ≤ sd) (hs1 : sd < 1000000007) (hk0 : 0 ≤ k) (hk1 : k ≤ 100) : (sd + 20011 * (k + 1)).natAbs < 2 ^ 64 := by omega
theorem fdiv_nn {a b : Int} (ha : 0 ≤ a) (hb : 0 < b) : 0 ≤ a.fdiv b := by
  rw [Int.fdiv_eq_ediv_of_nonneg _ (Int.le_of_lt hb)]
  exact Int.ediv_nonneg ha (Int.le_of_lt hb)
section
local macro_rules | `(tactic| walk_at "binaryOp Pow int int") => `(tactic| (k_here; with_reducible refine pow_int_small ?p1 ?p2 ?p3 ?_; (case p1 => decide); (case p2 => decide); (case p3 => k_dflt (exact pow_bnd (by assumption) (by assumption) (by assumption) (by assumption)))))
local macro_rules | `(tactic| k_all) => `(tactic| assumption)
theorem c_law_draw (w : World) (mean mg mb) (d sd k : Int) (t1 t2 t3 t4 : Tok) (l : Addr) (n : Nat) (many : Int) (hm : 0 < many) (hm2 : many < 1000) (hd0 : 0 ≤ d) (hs0 : 0 ≤ sd) (hs1 : sd < 1000000007) (hk0 : 0 ≤ k) (hk1 : k ≤ 100) :
    ConU w mean mg mb 245 1 30 l (listOf #[.int d t1, .int sd t2, .int k t3] n) [.ref l, .int many t4] (fun r o => ∃ g u d' k', r = .int g u ∧ 0 ≤ g ∧ g < many ∧ tapeOf d' sd k' o ∧ 0 ≤ d' ∧ k ≤ k' ∧ k' ≤ k + 1) := by
  unfold ConU
  k_fill
  intro dp un gd cn cs a ccd cl outer A₀ base h₀ L m news s Q E B F X N hne T hk hd hu hret
  refine wpAny_call ?_
  k_dflt cell_enter
  k_steps
  all_goals (try law_absurd)
  · rename Fr _ _ _ _ => F9
    rename News _ _ _ _ => N9
    exact hret _ _ _ _ F9 N9 ⟨_, _, _, k + 1, rfl, Int.fmod_nonneg_of_pos _ hm, Int.fmod_lt_of_pos _ hm, ⟨_, _, _, _, rfl⟩, fdiv_nn (Int.fmod_nonneg_of_pos _ (by decide)) hm, by omega, Int.le_refl _⟩
  · rename Fr _ _ _ _ => F9
    rename News _ _ _ _ => N9
    exact hret _ _ _ _ F9 N9 ⟨_, _, _, k, rfl, Int.fmod_nonneg_of_pos _ hm, Int.fmod_lt_of_pos _ hm, ⟨_, _, _, _, rfl⟩, fdiv_nn hd0 hm, Int.le_refl _, by omega⟩
end

end
-- F_tape
section
open PySem.Heap PySem.Calls PyProof.V PySem.Spec
set_option maxHeartbeats 8000000
set_option maxHeartbeats 1000000
structure TpSt where
  d : Int
  sd : Int
  t1 : Tok
  t2 : Tok
/-- a contract over a list of the base -/
def ConL (w : World) (mean : ExcName → Option Value) (mg mb : Str → Option Value) (f : Addr) (dd uu : Nat) (l : Addr) (ls : List Value) (vs : List Value) (Out : Value → Led → Prop) : Prop :=
  ∀ (dp un : Nat) (gd : Option (List Code)) (cn : Str) (cs : Scope) (a : Addr) (ccd : Value) (cl : List (Str × Addr)) (outer : List Env) (A₀ : Around) (base h₀ : Heap) (L : Addr) (m : Str → Option Value) (news : Led) (s : Shared)
    (Q E : Value → Shared → Prop),
    Below A₀ base outer h₀ → Fr h₀ L s.heap m → (hd.heap_39 w.params).In h₀ → News h₀ L s.heap news → Top hd.view_39 (looseW hd.view_39 [Str.ofString "PostError"]) mean mg mb h₀ → cs.kind = .function → dp + dd < recursionLimit → un + uu < cLine → base.IsList l ls.toArray →
    (∀ r tl h' tk', Fr h₀ L h' m → News h₀ L h' (tl ++ news) → (∀ q ∈ news, ∀ p ∈ tl, q.1 < p.1) → Out r tl → Q r { s with heap := h', toks := tk' }) →
    wpAny (model PySem.Challenge.rw_pq0938_01.row.prog w) (ktrTop dp un gd cn cs L a ccd cl outer) (call (.ref f) vs) Q E s
section
theorem c_law_tape (w : World) (mean mg mb) (l : Addr) (vs : List Value) (ns : List Int) (hi : IntsAre vs ns) (hlen : ns.length ≤ 63) :
    ConL w mean mg mb 238 1 30 l vs [.ref l] (fun r tl => ∃ D o d sd, r = .ref D ∧ tl = [(D, o)] ∧ tapeOf d sd 0 o ∧ 0 ≤ d ∧ 0 ≤ sd ∧ sd < 1000000007) := by
  unfold ConL
  k_fill
  intro dp un gd cn cs a ccd cl outer A₀ base h₀ L m news s Q E B F X N T hk hd hu hl hret
  refine wpAny_call ?_
  k_dflt cell_enter
  rename Below _ _ _ _ => B9
  have hl2 := hl.at (B9.stays l)
  clear hl
  k_steps
  unfold Hold
  rename_i D1 ws1 h1 F1 N1 I1 C1 L1 l1
  refine for_list (σ := TpSt) (fun _ => (D1, listOf ws1.toArray 0) :: _) (fun c => [(Str.ofString "digits", .int c.d c.t1), (Str.ofString "seed", .int c.sd c.t2)])
    (fun i c => 0 ≤ c.d ∧ 0 ≤ c.sd ∧ c.sd < 1000000007) ⟨0, 0, _, _⟩ (by rfl) (by rfl) (fun _ _ _ => .head _) F1 N1 (by kst_all) ⟨Int.le_refl 0, Int.le_refl 0, (by decide : (0:Int) < 1000000007)⟩ ?_ ?_
  · rintro i v ⟨d, sd, t1, t2⟩ u I oI h tk hv ⟨hd0, hs0, hs1⟩ hlt hne F2 N2
    obtain ⟨c, tc, rfl, hc⟩ := IntsAre.at I1 i v (by simpa using hv)
    dsimp only at hd0 hs0 hs1 F2 N2
    k_steps
    rename Fr _ _ _ _ => F9
    rename News _ _ _ _ => N9
    refine ForNext.intro ⟨_, _, _, _⟩ F9 N9 (fun _ h => h) (off_same hlt) (by kst_all) ⟨?_, Int.fmod_nonneg_of_pos _ (by decide), Int.fmod_lt_of_pos _ (by decide)⟩
    dsimp only
    omega
  · rintro ⟨d, sd, t1, t2⟩ u h tk ⟨hd0, hs0, hs1⟩ F2 N2
    dsimp only at hd0 hs0 hs1 F2 N2
    k_steps
    rename_i l5 h5 F5 N5 l6 kF kN Tc kX
    exact hret (.ref l5) [(l5, _)] _ _ kF (cb_drop kN (by
      intro q hq
      rcases List.mem_cons.mp hq with rfl | hq
      · exact .head _
      · exact .tail _ (.tail _ (.tail _ hq)))) (lt_one (allLt_all l6.2.2)) ⟨l5, _, d, sd, rfl, rfl, ⟨t1, t2, _, _, rfl⟩, hd0, hs0, hs1⟩
end

end
-- Use
section
open PySem.Heap PySem.Calls PyProof.V PySem.Spec
set_option maxHeartbeats 8000000
section
variable {w : World} {mean : ExcName → Option Value} {mg mb : Str → Option Value}
    {dp un : Nat} {gd : Option (List Code)} {cn : Str} {cs : Scope} {a : Addr} {ccd : Value} {cl : List (Str × Addr)} {outer : List Env} {A₀ : Around} {base h₀ : Heap} {L : Addr} {m : Str → Option Value} {news : Led} {s : Shared} {Q E : Value → Shared → Prop}
theorem use_draw {l : Addr} {o : Obj} {g : Obj → Led} {d sd k many : Int} {t4 : Tok} (B : Below A₀ base outer h₀) (F : Fr h₀ L s.heap m) (X : (hd.heap_39 w.params).In h₀) (N : News h₀ L s.heap news) (T : Top hd.view_39 (looseW hd.view_39 [Str.ofString "PostError"]) mean mg mb h₀) (hk : cs.kind = .function)
    (hd : dp + 1 < recursionLimit) (hu : un + 30 < cLine) (U : UpdF l o news g) (ho : tapeOf d sd k o) (hd0 : 0 ≤ d) (hs : 0 ≤ sd ∧ sd < 1000000007) (hk0 : 0 ≤ k) (hk1 : k ≤ 100) (hm : 0 < many) (hm2 : many < 1000)
    (ret : ∀ gg u o' d' k' h' tk', 0 ≤ gg → gg < many → tapeOf d' sd k' o' → 0 ≤ d' → k ≤ k' → k' ≤ k + 1 → Fr h₀ L h' m → News h₀ L h' (g o') → Q (.int gg u) { s with heap := h', toks := tk' }) :
    wpAny (model PySem.Challenge.rw_pq0938_01.row.prog w) (ktrTop dp un gd cn cs L a ccd cl outer) (call (.ref 245) [.ref l, .int many t4]) Q E s := by
  obtain ⟨t1, t2, t3, n, rfl⟩ := ho
  obtain ⟨pre, post, rfl, hg, h1, h2⟩ := U.split
  refine c_law_draw w mean mg mb d sd k t1 t2 t3 t4 l n many hm hm2 hd0 hs.1 hs.2 hk0 hk1 dp un gd cn cs a ccd cl outer A₀ base h₀ L m (pre ++ post) s Q E B F X ?_ ?_ T hk hd hu ?_
  · intro q hq
    refine N q ?_
    rcases List.mem_cons.mp hq with rfl | hq
    · exact List.mem_append_right _ (.head _)
    · rcases List.mem_append.mp hq with hq | hq
      · exact List.mem_append_left _ hq
      · exact List.mem_append_right _ (.tail _ hq)
  · intro q hq
    rcases List.mem_append.mp hq with hq | hq
    · exact h1 q hq
    · exact h2 q hq
  · rintro r o' h' tk' F' N' ⟨gg, u, d', k', rfl, e1, e2, e3, e4, e5, e6⟩
    refine ret gg u o' d' k' h' tk' e1 e2 e3 e4 e5 e6 F' ?_
    rw [hg]
    intro q hq
    refine N' q ?_
    rcases List.mem_append.mp hq with hq | hq
    · exact .tail _ (List.mem_append_left _ hq)
    · rcases List.mem_cons.mp hq with rfl | hq
      · exact .head _
      · exact .tail _ (List.mem_append_right _ hq)
theorem use_tape {l : Addr} {vs : List Value} {ns : List Int} (hi : IntsAre vs ns) (hlen : ns.length ≤ 63) (B : Below A₀ base outer h₀) (F : Fr h₀ L s.heap m) (X : (hd.heap_39 w.params).In h₀) (N : News h₀ L s.heap news) (T : Top hd.view_39 (looseW hd.view_39 [Str.ofString "PostError"]) mean mg mb h₀) (hk : cs.kind = .function)
    (hd : dp + 1 < recursionLimit) (hu : un + 30 < cLine) (hl : base.IsList l vs.toArray)
    (ret : ∀ D o d sd k h' tk', tapeOf d sd k o → 0 ≤ d → 0 ≤ sd ∧ sd < 1000000007 → k = 0 → Fr h₀ L h' m → News h₀ L h' ((D, o) :: news) → (∀ p ∈ news, p.1 < D) → Q (.ref D) { s with heap := h', toks := tk' }) :
    wpAny (model PySem.Challenge.rw_pq0938_01.row.prog w) (ktrTop dp un gd cn cs L a ccd cl outer) (call (.ref 238) [.ref l]) Q E s :=
  c_law_tape w mean mg mb l vs ns hi hlen dp un gd cn cs a ccd cl outer A₀ base h₀ L m news s Q E B F X N T hk hd hu hl fun r tl h' tk' F' N' l' ⟨D, o, d, sd, e1, e2, e3, e4, e5, e6⟩ => by
    subst e1 e2
    exact ret D o d sd 0 h' tk' e3 e4 ⟨e5, e6⟩ rfl F' N' fun q hq => l' q hq _ (.head _)
end

end
-- Tab
section
open PySem.Heap PySem.Calls PyProof.V PySem.Spec
set_option maxHeartbeats 8000000
def tails : List (Str × Int) := [(Str.ofString "", -1), (Str.ofString "/a", -1), (Str.ofString "/", 6), (Str.ofString "//a", 6), (Str.ofString "/a/b", -1), (Str.ofString "es", -1), (Str.ofString "/%", 6), (Str.ofString "/inbox", -1), (Str.ofString "*", 5), (Str.ofString "x/a", -1)]
def tailAt (n : Nat) : Str × Int := tails.getD n (Str.ofString "", -1)
def menu : List Str := [Str.ofString "INBOX", Str.ofString "INBOX/a", Str.ofString "INBOX/inbox", Str.ofString "INBOX/a/b", Str.ofString "INBOXes", Str.ofString "inboxes", Str.ofString "a/INBOX", Str.ofString "b"]
theorem tails_objs (w : World) (n : Nat) (hn : n < 10) : ∃ t t', (hd.heap_39 w.params).lookup (220 + n) = some { cls := .type "tuple", data := .seq #[.str (tailAt n).1 t, .int (tailAt n).2 t'] } := by
  match n, hn with
  | 0, _ | 1, _ | 2, _ | 3, _ | 4, _ | 5, _ | 6, _ | 7, _ | 8, _ | 9, _ => exact ⟨_, _, rfl⟩
theorem tails_obj (w : World) : (hd.heap_39 w.params).lookup 230 = some { cls := .type "tuple", data := .seq #[.ref 220, .ref 221, .ref 222, .ref 223, .ref 224, .ref 225, .ref 226, .ref 227, .ref 228, .ref 229] } := by rfl
theorem menu_obj (w : World) : ∃ vs : List Value, (hd.heap_39 w.params).lookup 231 = some { cls := .type "tuple", data := .seq vs.toArray } ∧ StrsAre vs menu := 
  ⟨[_, _, _, _, _, _, _, _], rfl, .cons _ _ (.cons _ _ (.cons _ _ (.cons _ _ (.cons _ _ (.cons _ _ (.cons _ _ (.cons _ _ .nil)))))))⟩
section
variable {prog : Program} {w : World} {A : Around} {E : Value → Shared → Prop} {s : Shared} {value slice : PySem.Expr} {g : Int} {u : Tok} {Q : Value → Shared → Prop} {h₀ : Heap} {L : Addr} {m : Str → Option Value}
theorem tails_item (F : Fr h₀ L s.heap m) (X₀ : (hd.heap_39 w.params).In h₀) (h0 : 0 ≤ g) (h1 : g < 10)
    (h : ∀ (n : Nat) a t t', g = n → n < 10 → IsTup h₀ a #[.str (tailAt n).1 t, .int (tailAt n).2 t'] → Q (.ref a) s)
    (hs : subscripted slice false (.ref 230) (.int g u) = operate [.ref 230, .int g u] (getItem (.ref 230) (.int g u)) := by with_unfolding_all rfl) :
    wpAny (model prog w) A (subscriptTail value slice (.ref 230) (.int g u)) Q E s := by
  obtain ⟨n, rfl⟩ := Int.eq_ofNat_of_zero_le h0
  have hn : n < 10 := by omega
  have ht : IsTup s.heap 230 #[.ref 220, .ref 221, .ref 222, .ref 223, .ref 224, .ref 225, .ref 226, .ref 227, .ref 228, .ref 229] := ⟨_, (X₀.keeps F.keep) _ _ (tails_obj w), rfl, _, rfl⟩
  obtain ⟨t, t', ho⟩ := tails_objs w n hn
  have hx : [Value.ref 220, .ref 221, .ref 222, .ref 223, .ref 224, .ref 225, .ref 226, .ref 227, .ref 228, .ref 229][n]? = some (.ref (220 + n)) := by
    show ((List.range' 220 10).map Value.ref)[n]? = _
    rw [List.getElem?_map, List.getElem?_range' hn, Nat.one_mul]; rfl
  exact item_tupleT ht (by omega) (by omega) (seqIndex_of (by omega) (by show (n : Int) < 10; omega)) hx (h n _ t t' rfl hn ⟨_, X₀ _ _ ho, rfl, _, rfl⟩) hs
theorem menu_item (F : Fr h₀ L s.heap m) (X₀ : (hd.heap_39 w.params).In h₀) (h0 : 0 ≤ g) (h1 : g < 8)
    (h : ∀ t, Q (.str (menu.getD g.toNat Str.empty) t) s)
    (hs : subscripted slice false (.ref 231) (.int g u) = operate [.ref 231, .int g u] (getItem (.ref 231) (.int g u)) := by with_unfolding_all rfl) :
    wpAny (model prog w) A (subscriptTail value slice (.ref 231) (.int g u)) Q E s := by
  obtain ⟨vs, ho, hS⟩ := menu_obj w
  exact KTb.item_tup (ws := menu) ⟨_, (X₀.keeps F.keep) _ _ ho, rfl, _, rfl⟩ hS h0 h1 (by omega) (fun t _ => h t) hs
end

end
-- LawDef
section
open PySem.Heap PySem.Calls PyProof.V PySem.Spec
set_option maxHeartbeats 8000000
/-- the law's own statements, taken from the given program -/
def lawSt : Option Stmt := PySem.Challenge.pw_pq0938_01.main.body.getLast?
def lawBody : List Stmt := match lawSt with | some (.FunctionDef _ _ b _ _ _ _ _ _ _) => b | _ => []
def lawScope : Scope := match lawSt with | some (.FunctionDef _ _ _ _ _ _ s _ _ _) => s | _ => { kind := .function, names := [], isGenerator := false, isCoroutine := false }
def lawEnv (L a : Addr) (cd : Value) : Env := envOfC (Str.ofString "law") lawScope L a cd
theorem law_lit {prog : Program} {w : World} {Q : Flow → Shared → Prop} {E : Value → Shared → Prop} {s : Shared} {b b' : List Stmt} {sc : Scope} {L a : Addr} {cd : Value} (e : b = b') (e2 : lawScope = sc)
    (h : wpAny (model prog w) (callerA.deeper (envOfC (Str.ofString "law") sc L a cd)) (execs b' (envOfC (Str.ofString "law") sc L a cd)) Q E s) :
    wpAny (model prog w) (callerA.deeper (lawEnv L a cd)) (execs b (lawEnv L a cd)) Q E s := by
  subst e e2; exact h
theorem kst_of {h₀ h : Heap} {L : Addr} {m : Str → Option Value} (F : Fr h₀ L h m) {ps : List (Str × Value)} (hk : ∀ p ∈ ps, m p.1 = some p.2) : Fr h₀ L h (kstB m ps) := by
  have e : kstB m ps = m := by
    induction ps with
    | nil => rfl
    | cons p r ih => 
      funext y
      have hr := ih fun q hq => hk q (.tail _ hq)
      have hp := hk p (.head _)
      show (if y = p.1 then some p.2 else kstB m r y) = m y
      split
      · rename_i e; rw [e, hp]
      · rw [hr]
  rw [e]; exact F

end
-- LawSt
section
open PySem.Heap PySem.Calls PyProof.V PySem.Spec
set_option maxHeartbeats 8000000
def nears : List Str := [Str.ofString "ınbox", Str.ofString "1NBOX", Str.ofString "INB0X", Str.ofString " inbox"]
/-- the law from its n-th statement on ends with True -/
def Law4 : Prop := ∀ (w : World) (mean : ExcName → Option Value) (mg mb : Str → Option Value) (h₀ : Heap) (a : Addr) (cd : Value) (L : Addr) (m : Str → Option Value) (s : Shared) (Q : Flow → Shared → Prop) (E : Value → Shared → Prop), Below callerA h₀ [] h₀ → (hd.heap_39 w.params).In h₀ → Top hd.view_39 (looseW hd.view_39 [Str.ofString "PostError"]) mean mg mb h₀ →
    (∀ (h' : Heap) (tk' : Nat) (m' : Str → Option Value) (nl : Led), Fr h₀ L h' m' → News h₀ L h' nl → Q (.ret (.bool true)) { s with heap := h', toks := tk' }) →
    PassesOwn (model PySem.Challenge.rw_pq0938_01.row.prog w) (callerA.deeper (lawEnv L a cd)) (lawEnv L a cd) E →
    ∀ (n : Nat) (mk : Int) (nr : Str) (held : Int) (th t1 t2 t3 t4 : Tok) (oc : Obj), n < 10 → 0 ≤ mk → mk < 32 → nr ∈ nears → oc.data = .cell (some (.int held th)) → ∀ (D : Addr) (o : Obj) (d sd k : Int), tapeOf d sd k o → 0 ≤ d → (0 ≤ sd ∧ sd < 1000000007) → 0 ≤ k → k ≤ 10 → @LT.lt Nat _ (L + 1) D →
    Fr h₀ L s.heap (kstB m [(Str.ofString "tape", .ref D), (Str.ofString "tail", .str (tailAt n).1 t1), (Str.ofString "place", .int (tailAt n).2 t2), (Str.ofString "mask", .int mk t3), (Str.ofString "near", .str nr t4)]) → News h₀ L s.heap [(D, o), (L + 1, oc)] →
    wpAny (model PySem.Challenge.rw_pq0938_01.row.prog w) (callerA.deeper (lawEnv L a cd)) (execs (lawBody.drop 4) (lawEnv L a cd)) Q E s
def Law5 : Prop := ∀ (w : World) (mean : ExcName → Option Value) (mg mb : Str → Option Value) (h₀ : Heap) (a : Addr) (cd : Value) (L : Addr) (m : Str → Option Value) (s : Shared) (Q : Flow → Shared → Prop) (E : Value → Shared → Prop), Below callerA h₀ [] h₀ → (hd.heap_39 w.params).In h₀ → Top hd.view_39 (looseW hd.view_39 [Str.ofString "PostError"]) mean mg mb h₀ →
    (∀ (h' : Heap) (tk' : Nat) (m' : Str → Option Value) (nl : Led), Fr h₀ L h' m' → News h₀ L h' nl → Q (.ret (.bool true)) { s with heap := h', toks := tk' }) →
    PassesOwn (model PySem.Challenge.rw_pq0938_01.row.prog w) (callerA.deeper (lawEnv L a cd)) (lawEnv L a cd) E →
    ∀ (n : Nat) (mk : Int) (nr : Str) (t1 t2 t3 t4 : Tok) (oc : Obj) (D2 : Addr) (ys : List Value) (ns : List Str), n < 10 → 0 ≤ mk → mk < 32 → nr ∈ nears → StrsAre ys ns → ns.length ≤ 8 → (∀ x ∈ ns, x ∈ menu) → ∀ (D : Addr) (o : Obj) (d sd k : Int), tapeOf d sd k o → 0 ≤ d → (0 ≤ sd ∧ sd < 1000000007) → 0 ≤ k → k ≤ 10 → @LT.lt Nat _ (L + 1) D → @Ne Nat D2 D → @Ne Nat D2 (L + 1) →
    Fr h₀ L s.heap (kstB m [(Str.ofString "tape", .ref D), (Str.ofString "tail", .str (tailAt n).1 t1), (Str.ofString "place", .int (tailAt n).2 t2), (Str.ofString "mask", .int mk t3), (Str.ofString "near", .str nr t4), (Str.ofString "names", .ref D2)]) → News h₀ L s.heap [(D2, LCg.lst ys), (D, o), (L + 1, oc)] →
    wpAny (model PySem.Challenge.rw_pq0938_01.row.prog w) (callerA.deeper (lawEnv L a cd)) (execs (lawBody.drop 5) (lawEnv L a cd)) Q E s
def Law6 : Prop := ∀ (w : World) (mean : ExcName → Option Value) (mg mb : Str → Option Value) (h₀ : Heap) (a : Addr) (cd : Value) (L : Addr) (m : Str → Option Value) (s : Shared) (Q : Flow → Shared → Prop) (E : Value → Shared → Prop), Below callerA h₀ [] h₀ → (hd.heap_39 w.params).In h₀ → Top hd.view_39 (looseW hd.view_39 [Str.ofString "PostError"]) mean mg mb h₀ →
    (∀ (h' : Heap) (tk' : Nat) (m' : Str → Option Value) (nl : Led), Fr h₀ L h' m' → News h₀ L h' nl → Q (.ret (.bool true)) { s with heap := h', toks := tk' }) →
    PassesOwn (model PySem.Challenge.rw_pq0938_01.row.prog w) (callerA.deeper (lawEnv L a cd)) (lawEnv L a cd) E →
    ∀ (n : Nat) (nr full : Str) (t1 t2 t4 t5 : Tok) (oc : Obj) (D2 : Addr) (ys : List Value) (ns : List Str), n < 10 → nr ∈ nears → full.length ≤ 20 → StrsAre ys ns → ns.length ≤ 8 → (∀ x ∈ ns, x ∈ menu) → ∀ (D : Addr) (o : Obj) (d sd k : Int), tapeOf d sd k o → 0 ≤ d → (0 ≤ sd ∧ sd < 1000000007) → 0 ≤ k → k ≤ 11 → @LT.lt Nat _ (L + 1) D → @Ne Nat D2 D → @Ne Nat D2 (L + 1) →
    Fr h₀ L s.heap (kstB m [(Str.ofString "tape", .ref D), (Str.ofString "tail", .str (tailAt n).1 t1), (Str.ofString "place", .int (tailAt n).2 t2), (Str.ofString "near", .str nr t4), (Str.ofString "names", .ref D2), (Str.ofString "full", .str full t5)]) → News h₀ L s.heap [(D2, LCg.lst ys), (D, o), (L + 1, oc)] →
    wpAny (model PySem.Challenge.rw_pq0938_01.row.prog w) (callerA.deeper (lawEnv L a cd)) (execs (lawBody.drop 6) (lawEnv L a cd)) Q E s
def isIn (n : Nat) : Bool := [Str.ofString "", Str.ofString "/"].any fun x => x == Txt.slice (tailAt n).1 none (some 1)
def Law9 : Prop := ∀ (w : World) (mean : ExcName → Option Value) (mg mb : Str → Option Value) (h₀ : Heap) (a : Addr) (cd : Value) (L : Addr) (m : Str → Option Value) (s : Shared) (Q : Flow → Shared → Prop) (E : Value → Shared → Prop), Below callerA h₀ [] h₀ → (hd.heap_39 w.params).In h₀ → Top hd.view_39 (looseW hd.view_39 [Str.ofString "PostError"]) mean mg mb h₀ →
    (∀ (h' : Heap) (tk' : Nat) (m' : Str → Option Value) (nl : Led), Fr h₀ L h' m' → News h₀ L h' nl → Q (.ret (.bool true)) { s with heap := h', toks := tk' }) →
    PassesOwn (model PySem.Challenge.rw_pq0938_01.row.prog w) (callerA.deeper (lawEnv L a cd)) (lawEnv L a cd) E →
    ∀ (n : Nat) (full : Str) (cut : Int) (t1 t2 t5 t6 : Tok) (D2 : Addr) (ys : List Value) (ns : List Str) (news : Led), n < 10 → full.length ≤ 20 → 0 ≤ cut → cut ≤ full.length → StrsAre ys ns → ns.length ≤ 8 → (∀ x ∈ ns, x ∈ menu) → (D2, LCg.lst ys) ∈ news →
    Fr h₀ L s.heap (kstB m [(Str.ofString "tail", .str (tailAt n).1 t1), (Str.ofString "place", .int (tailAt n).2 t2), (Str.ofString "names", .ref D2), (Str.ofString "full", .str full t5), (Str.ofString "cut", .int cut t6), (Str.ofString "is_inbox", .bool (isIn n))]) → News h₀ L s.heap news →
    wpAny (model PySem.Challenge.rw_pq0938_01.row.prog w) (callerA.deeper (lawEnv L a cd)) (execs (lawBody.drop 9) (lawEnv L a cd)) Q E s
def Law10 : Prop := ∀ (w : World) (mean : ExcName → Option Value) (mg mb : Str → Option Value) (h₀ : Heap) (a : Addr) (cd : Value) (L : Addr) (m : Str → Option Value) (s : Shared) (Q : Flow → Shared → Prop) (E : Value → Shared → Prop), Below callerA h₀ [] h₀ → (hd.heap_39 w.params).In h₀ → Top hd.view_39 (looseW hd.view_39 [Str.ofString "PostError"]) mean mg mb h₀ →
    (∀ (h' : Heap) (tk' : Nat) (m' : Str → Option Value) (nl : Led), Fr h₀ L h' m' → News h₀ L h' nl → Q (.ret (.bool true)) { s with heap := h', toks := tk' }) →
    PassesOwn (model PySem.Challenge.rw_pq0938_01.row.prog w) (callerA.deeper (lawEnv L a cd)) (lawEnv L a cd) E →
    ∀ (full : Str) (cut : Int) (t5 t6 : Tok) (D2 : Addr) (ys : List Value) (ns : List Str) (news : Led), full.length ≤ 20 → 0 ≤ cut → cut ≤ full.length → StrsAre ys ns → ns.length ≤ 8 → (∀ x ∈ ns, x ∈ menu) → (D2, LCg.lst ys) ∈ news →
    Fr h₀ L s.heap (kstB m [(Str.ofString "names", .ref D2), (Str.ofString "full", .str full t5), (Str.ofString "cut", .int cut t6)]) → News h₀ L s.heap news →
    wpAny (model PySem.Challenge.rw_pq0938_01.row.prog w) (callerA.deeper (lawEnv L a cd)) (execs (lawBody.drop 10) (lawEnv L a cd)) Q E s

end
-- EqTup
section
open PySem.Heap PySem.Calls PyProof.V PySem.Spec PySem.SeqAt
set_option maxHeartbeats 8000000
section
variable {prog : Program} {w : World} {A : Around} {E : Value → Shared → Prop} {s : Shared} {h₀ : Heap} {L : Addr}
theorem tup_eqAt {led : Led} (N : News h₀ L s.heap led) {a b : Addr} {x : Str} {t u : Tok} {k : Bool} (h1 : (a, tupOf [.str x t, .bool k]) ∈ led) (h2 : (b, tupOf [.str x u, .bool k]) ∈ led) (hu : A.units < cLine) : EqAt A s (.ref a) (.ref b) true := by
  by_cases e : a = b
  · subst e; exact EqAt.same _
  · refine EqAt.of_refs e ?_
    have := RcAt.tuples (e := fun _ => true) (A := A) (s := s) (l := a) (b := b) (items := #[.str x t, .bool k]) (items2 := #[.str x u, .bool k]) ⟨_, N.get h1, rfl, _, rfl⟩ ⟨_, N.get h2, rfl, _, rfl⟩ hu (fun j h1 h2 => by
      have hj : j = 0 ∨ j = 1 := by have : j < 2 := h1; omega
      rcases hj with rfl | rfl
      · have := EqAt.str_str (A := A.in1) (s := s) x t x u
        rw [beq_self_eq_true] at this; exact this
      · have := EqAt.bool_bool (A := A.in1) (s := s) k k
        rw [beq_self_eq_true] at this; exact this)
    exact this
theorem tups_get {led : Led} {ys ys2 : List Value} {rs : List (Str × Bool)} (N : News h₀ L s.heap led) (h1 : TupsAre led ys rs) (hu : A.units < cLine) : TupsAre led ys2 rs → ys.length = ys2.length ∧ ∀ j (h1 : j < ys.length) (h2 : j < ys2.length), EqAt A s ys[j] ys2[j] true := by
  induction h1 generalizing ys2 with
  | nil => intro h2; cases h2; exact ⟨rfl, fun j h _ => nomatch h⟩
  | cons hm _ ih =>
    intro h2
    cases h2 with
    | cons hm2 hr =>
      obtain ⟨e, hh⟩ := ih hr
      refine ⟨by simp [e], fun j j1 j2 => ?_⟩
      cases j with
      | zero => exact tup_eqAt N hm hm2 hu
      | succ j => exact hh j (Nat.lt_of_succ_lt_succ j1) (Nat.lt_of_succ_lt_succ j2)
theorem lists_ne {led : Led} {ys ys2 : List Value} {rs rs2 : List (Str × Bool)} {a b : Addr} {n n2 : Nat} {Q : Value → Shared → Prop} (N : News h₀ L s.heap led) (h1 : TupsAre led ys rs) (h2 : TupsAre led ys2 rs2) (e : rs = rs2) (m1 : (a, listOf ys.toArray n) ∈ led) (m2 : (b, listOf ys2.toArray n2) ∈ led)
    (hu : A.units + 4 < cLine) (h : Q (.bool false) s) : wpAny (model prog w) A (compareOp .NotEq (.ref a) (.ref b)) Q E s := by
  subst e
  have hu1 : A.in1.units < cLine := by show A.units + 1 < cLine; omega
  obtain ⟨el, hh⟩ := tups_get (A := A.in1) N h1 hu1 h2
  have := RcNeAt.lists (A := A) (s := s) (e := fun _ => true) (items := ys.toArray) (items2 := ys2.toArray) (N.isList m1) (N.isList m2) (by simpa using el) (by omega) (fun j j1 j2 => by
    have := hh j (by simpa using j1) (by simpa using j2)
    simpa using this)
  refine cmp_ofNotEq (this prog w E Q ?_)
  have e : (List.range ys.toArray.size).all (fun _ => true) = true := List.all_eq_true.mpr fun _ _ => rfl
  rw [e]; exact h
end

end
-- L_A
open PySem.Heap PySem.Calls PyProof.V PySem.Spec
local macro_rules | `(tactic| walk_at "call ref") => `(tactic| (k_here; (with_reducible show wpAny _ _ (call (Value.ref 238) [Value.ref _]) _ _ _); k_dflt (refine' use_tape ?hi ?hlen ?k1 ?k2 ?k3 ?k4 ?k5 ?kK ?kd ?ku ?hl ?_; walk_at "mine ctx"; (case hl => assumption); (case hi => assumption); (case hlen => omega)); intro D9 o9 d9 sd9 kk9 h9 tk9 H9 hd9 hs9 hk9 F9 N9 l9; (try k_lt l9)))
local macro_rules | `(tactic| walk_at "call ref") => `(tactic| (k_here; (with_reducible show wpAny _ _ (call (Value.ref 245) [Value.ref _, Value.int _ _]) _ _ _); k_dflt (refine' use_draw ?k1 ?k2 ?k3 ?k4 ?k5 ?kK ?kd ?ku ?U ?ho ?h0 ?hs ?hk0 ?hk1 ?hm ?hm2 ?_; walk_at "mine ctx"; (case U => k_updF); (case ho => assumption); (case h0 => assumption); (case hs => assumption); (case hk0 => omega); (case hk1 => omega); (case hm => first | decide | omega); (case hm2 => first | decide | omega)); intro g9 u9 o9 d9 k9 h9 tk9 g0 g1 H9 hd9 hka9 hkb9 F9 N9))
local macro_rules | `(tactic| walk_at "subscriptTail Name Call ref int") => `(tactic| (k_here; (with_reducible show wpAny _ _ (subscriptTail _ _ (Value.ref 230) (Value.int _ _)) _ _ _); k_dflt (refine' tails_item ?F ?X ?h0 ?h1 ?_; (case F => k_asm); (case X => k_asm); (case h0 => assumption); (case h1 => assumption); k_whole); intro n9 a9 t9 t9' e9 hn9 ht9))
section
open PySem.Heap PySem.Calls PyProof.V PySem.Spec
set_option maxHeartbeats 8000000
set_option maxHeartbeats 4000000
theorem law_A_end (H4 : Law4) {w : World} {mean : ExcName → Option Value} {mg mb : Str → Option Value} {h₀ : Heap} {a : Addr} {cd : Value} {L : Addr} {m : Str → Option Value} {s : Shared} {Q : Flow → Shared → Prop} {E : Value → Shared → Prop} {x y : Addr × Obj}
    {n : Nat} {mk : Int} {nr : Str} {held : Int} {th t1 t2 t3 t4 : Tok} {oc : Obj} {D : Addr} {o : Obj} {d sd k : Int}
    (F : Fr h₀ L s.heap m) (N : News h₀ L s.heap [x, y, (D, o), (L + 1, oc)])
    (hk : ∀ p ∈ [(Str.ofString "tape", .ref D), (Str.ofString "tail", .str (tailAt n).1 t1), (Str.ofString "place", .int (tailAt n).2 t2), (Str.ofString "mask", .int mk t3), (Str.ofString "near", .str nr t4)], m p.1 = some p.2)
    (hoc : oc.data = .cell (some (.int held th))) (H : tapeOf d sd k o) (hd0 : 0 ≤ d) (hs : 0 ≤ sd ∧ sd < 1000000007) (hk0 : 0 ≤ k) (hk1 : k ≤ 10) (hn : n < 10) (hm0 : 0 ≤ mk) (hm1 : mk < 32) (hnr : nr ∈ nears) (hDL : @LT.lt Nat _ (L + 1) D)
    (K0 : Below callerA h₀ [] h₀) (X : (hd.heap_39 w.params).In h₀) (T : Top hd.view_39 (looseW hd.view_39 [Str.ofString "PostError"]) mean mg mb h₀)
    (hQ : ∀ (h' : Heap) (tk' : Nat) (m' : Str → Option Value) (nl : Led), Fr h₀ L h' m' → News h₀ L h' nl → Q (.ret (.bool true)) { s with heap := h', toks := tk' })
    (hE : PassesOwn (model PySem.Challenge.rw_pq0938_01.row.prog w) (callerA.deeper (lawEnv L a cd)) (lawEnv L a cd) E) :
    wpAny (model PySem.Challenge.rw_pq0938_01.row.prog w) (callerA.deeper (lawEnv L a cd)) (execs (lawBody.drop 4) (lawEnv L a cd)) Q E s :=
  H4 w mean mg mb h₀ a cd L m s Q E K0 X T hQ hE n mk nr held th t1 t2 t3 t4 oc hn hm0 hm1 hnr hoc D o d sd k H hd0 hs hk0 hk1 hDL (kst_of F hk) fun p hp => N p (.tail _ (.tail _ hp))
section
local macro_rules | `(tactic| walk_at "execs cons") => `(tactic| (k_here; (with_reducible show wpAny _ _ (execs (Stmt.Assign [Expr.Name (Str.ofString "names") _] _ _ :: _) _) _ _ _); refine hold ?_))
theorem law_A (H4 : Law4) (w : World) (mean mg mb) (h₀ : Heap) (a : Addr) (cd : Value) (L : Addr) (m : Str → Option Value) (s : Shared) (Q : Flow → Shared → Prop) (E : Value → Shared → Prop)
    (K0 : Below callerA h₀ [] h₀) (X : (hd.heap_39 w.params).In h₀) (T : Top hd.view_39 (looseW hd.view_39 [Str.ofString "PostError"]) mean mg mb h₀)
    (hQ : ∀ (h' : Heap) (tk' : Nat) (m' : Str → Option Value) (nl : Led), Fr h₀ L h' m' → News h₀ L h' nl → Q (.ret (.bool true)) { s with heap := h', toks := tk' })
    (hE : PassesOwn (model PySem.Challenge.rw_pq0938_01.row.prog w) (callerA.deeper (lawEnv L a cd)) (lawEnv L a cd) E)
    (l : Addr) (vs : List Value) (ns : List Int) (hI : IntsAre vs ns) (hlen : ns.length ≤ 63) (hl : h₀.IsList l vs.toArray) (oc : Obj) (hoc : oc.data = .cell none)
    (F : Fr h₀ L s.heap (kstB m [(Str.ofString "script", .ref l)])) (N : News h₀ L s.heap [(L + 1, oc)]) :
    wpAny (model PySem.Challenge.rw_pq0938_01.row.prog w) (callerA.deeper (lawEnv L a cd)) (execs (lawBody.drop 0) (lawEnv L a cd)) Q E s := by
  revert X
  k_fill
  intro X
  refine law_lit (b' := _ :: _) (sc := ⟨_, _, _, _, _⟩) rfl rfl ?_
  k_steps
  all_goals
    unfold Hold
    rename Fr _ _ _ _ => F5
    rename News _ _ _ _ => N5
    exact law_A_end H4 F5 N5 (by kst_all) (by assumption) (by assumption) (by assumption) (by assumption) (by omega) (by omega) (by assumption) (by assumption) (by assumption) (by simp [nears]) (by assumption) K0 X T (fun h' tk' m' nl F' N' => hQ h' tk' m' nl F' N') hE
end

end
-- L_N
section
open PySem.Heap PySem.Calls PyProof.V PySem.Spec
set_option maxHeartbeats 8000000
set_option maxHeartbeats 4000000
def heldAt (held k : Int) : Bool := decide ((held.fdiv (2 ^ k.toNat)).fmod 2 = 1)
def selN (held : Int) (l : List Int) : List Str := (l.filter (heldAt held)).map fun k => menu.getD k.toNat Str.empty
def eight : List Int := [0, 1, 2, 3, 4, 5, 6, 7]
theorem sel_yes {held k : Int} {i : Nat} {ys : List Value} {t : Tok} (hS : StrsAre ys (selN held (eight.take i))) (hg : eight[i]? = some k) (hy : (held.fdiv (2 ^ k.toNat)).fmod 2 = 1) :
    StrsAre (ys ++ [.str (menu.getD k.toNat Str.empty) t]) (selN held (eight.take (i + 1))) := by
  unfold selN
  rw [List.take_add_one, hg, List.filter_append, List.map_append]
  have : (List.filter (heldAt held) (some k).toList).map (fun k => menu.getD k.toNat Str.empty) = [menu.getD k.toNat Str.empty] := by
    simp [heldAt, hy]
  rw [this]
  exact Mine.strs_snoc hS
theorem sel_no {held k : Int} {i : Nat} {ys : List Value} (hS : StrsAre ys (selN held (eight.take i))) (hg : eight[i]? = some k) (hy : ¬ (held.fdiv (2 ^ k.toNat)).fmod 2 = 1) :
    StrsAre ys (selN held (eight.take (i + 1))) := by
  unfold selN
  rw [List.take_add_one, hg, List.filter_append, List.map_append]
  have : (List.filter (heldAt held) (some k).toList).map (fun k => menu.getD k.toNat Str.empty) = [] := by
    simp [heldAt, hy]
  rw [this, List.append_nil]
  exact hS
section
local macro_rules | `(tactic| walk_at "CompSrcT") => `(tactic| (k_here; refine hold ?_))
local macro_rules | `(tactic| walk_at "subscriptTail Name Name ref int") => `(tactic| (k_here; (with_reducible show wpAny _ _ (subscriptTail _ _ (Value.ref 231) (Value.int _ _)) _ _ _); k_dflt (refine' menu_item ?F ?X ?h0 ?h1 ?_; (case F => k_asm); (case X => k_asm); (case h0 => assumption); (case h1 => assumption); k_whole); intro t9))
local macro_rules | `(tactic| walk_at "eval Name") => `(tactic| (k_here; (with_reducible show wpAny _ _ (eval (Expr.Name _ _) (compEnvC _ _ _ _)) _ _ _); k_dflt (first
  | (refine' LCgL.ld_own ?N ?m ?c ?x ?_ ?a ?b ?d; (case d => decide); (case a => exact rfl); (case b => exact rfl); (case N => k_asm); (case m => k_mem); (case c => with_reducible assumption); (case x => with_reducible assumption); k_whole)
  | (refine' kcf_cell ?N ?c ?m ?v ?_ ?a ?b ?d; (case d => decide); (case a => exact rfl); (case b => exact rfl); (case N => k_asm); (case c => exact rfl); (case m => k_mem); (case v => with_reducible assumption); k_whole))))
local macro_rules | `(tactic| walk_at "execs cons") => `(tactic| (k_here; (with_reducible show wpAny _ _ (execs (Stmt.Assign [Expr.Name (Str.ofString "full") _] _ _ :: _) _) _ _ _); refine hold ?_))
theorem sel_in {held : Int} : ∀ {l : List Int}, (∀ k ∈ l, 0 ≤ k ∧ k < 8) → ∀ x ∈ selN held l, x ∈ menu := by
  intro l hl x hx
  unfold selN at hx
  obtain ⟨k, hk, rfl⟩ := List.mem_map.mp hx
  have := hl k ((List.mem_filter.mp hk).1)
  have h8 : k.toNat < menu.length := (Int.toNat_lt this.1).mpr this.2
  rw [List.getD_eq_getElem?_getD, List.getElem?_eq_getElem h8, Option.getD_some]
  exact List.getElem_mem _
theorem law_N (H5 : Law5) : Law4 := by
  unfold Law4
  intro w mean mg mb h₀ a cd L m s Q E K0
  k_fill
  intro X T hQ hE n mk nr held th t1 t2 t3 t4 oc hn hm0 hm1 hnr hoc D o d sd k H hd0 hs hk0 hk1 hDL F N
  refine law_lit (b' := _ :: _) (sc := ⟨_, _, _, _, _⟩) rfl rfl ?_
  k_steps
  unfold Hold
  rename_i h2 tk2 r1 u1 v1 R1 F1 N1 K1
  k_dflt (refine LCt.CompSrcT.range (n := 8) (by rfl) F1 N1 R1 (by decide) (by rfl) (by rw [PySem.sizeLine_eq]; omega) ?_)
  intro g3
  refine restT_inv (fun i ys nw => nw = [(D, o), (L + 1, oc)] ∧ StrsAre ys (selN held (eight.take i))) ⟨rfl, .nil⟩ ?_ ?_
  · rintro i v I oI C oC D2 m₂ ys nw h tk E' hi ⟨tv, rfl⟩ ⟨rfl, hS⟩ hC hx2 F2 N2 off ne
    have hget : eight[i]? = some (0 + (i : Int)) := by
      have : i = 0 ∨ i = 1 ∨ i = 2 ∨ i = 3 ∨ i = 4 ∨ i = 5 ∨ i = 6 ∨ i = 7 := by omega
      rcases this with rfl | rfl | rfl | rfl | rfl | rfl | rfl | rfl <;> rfl
    have hi2 : (0 : Int) + (i : Int) < 8 := by omega
    have hi3 : (0 : Int) ≤ 0 + (i : Int) := by omega
    generalize (0 : Int) + (i : Int) = k at hget hx2 hi2 hi3
    k_steps
    · exact LCg.CompEnd.intro (by assumption) (by assumption) _ (fun _ hp => hp) off trivial ⟨rfl, sel_yes hS hget (by assumption)⟩
    · exact LCg.CompEnd.intro (by assumption) (by assumption) _ (fun _ hp => hp) off trivial ⟨rfl, sel_no hS hget (by assumption)⟩
  · rintro ys nw ⟨rfl, hS⟩
    k_steps
    unfold Hold
    rename_i D5 h5 tk5 F5 N5 o5
    refine H5 w mean mg mb h₀ a cd L _ _ Q E K0 X T (fun h' tk' m' nl F' N' => hQ h' tk' m' nl F' N') hE n mk nr t1 t2 t3 t4 oc D5 ys _ hn hm0 hm1 hnr hS ?_ (sel_in ?_) D o d sd k H hd0 hs hk0 hk1 hDL (Ne.symm o5.1) (Ne.symm o5.2) (kst_of F5 (by kst_all)) N5
    · unfold selN; rw [List.length_map]; exact Nat.le_trans (List.length_filter_le _ _) (Nat.le_refl _)
    · show ∀ k ∈ eight, _; decide
end

end
-- L_B
section
open PySem.Heap PySem.Calls PyProof.V PySem.Spec
set_option maxHeartbeats 8000000
set_option maxHeartbeats 1200000
theorem spell_len (x : Int) : (spellS x).length = 5 := by
  have e : ∀ (ss : List Str), (∀ y ∈ ss, y.length = 1) → (Str.join (Str.ofString "") ss).length = ss.length := by
    intro ss hss
    rw [← StrLaws.glued_eq_join]
    exact PySem.W.KT.join_ones ss hss
  unfold spellS
  rw [e _ (by
    intro y hy
    obtain ⟨k, hk, rfl⟩ := List.mem_map.mp hy
    refine spellAt_len x k ?_ ?_ <;> (simp only [List.mem_cons, List.not_mem_nil, or_false] at hk; omega))]
  rfl
def fulls : List Str := [Str.ofString "", Str.ofString "/%", Str.ofString "/a", Str.ofString "*", Str.ofString "%", Str.ofString "/*", Str.ofString "es", Str.ofString "/inBOX", Str.ofString "/inbox"]
theorem fulls_len (n : Nat) : (fulls.getD n Str.empty).length ≤ 6 := getD_all (P := fun x : Str => x.length ≤ 6) (by decide +kernel) (by decide +kernel) n
section
local macro_rules | `(tactic| walk_at "call ref") => `(tactic| (k_here; (with_reducible show wpAny _ _ (call (Value.ref 250) [Value.int _ _]) _ _ _); k_dflt (refine' useS (c_law_spelled _ _ _ _ _ _ ?hx ?hy) ?k1 ?k2 ?k3 ?k4 ?k5 ?kK ?kd ?ku ?kp ?_); walk_at "mine ctx"; (case kp => trivial); (case hx => first | assumption | omega); (case hy => first | assumption | omega); intro t9 h9 tk9 F9 N9; (try dsimp only); (try k_fold)))
local macro_rules | `(tactic| walk_at "execs cons") => `(tactic| (k_here; (with_reducible show wpAny _ _ (execs (Stmt.Assign [Expr.Name (Str.ofString "cut") _] _ _ :: _) _) _ _ _); refine hold ?_))
theorem law_B (H6 : Law6) : Law5 := by
  unfold Law5
  intro w mean mg mb h₀ a cd L m s Q E K0
  k_fill
  intro X T hQ hE n mk nr t1 t2 t3 t4 oc D2 ys ns hn hm0 hm1 hnr hS hnl hns D o d sd k H hd0 hs hk0 hk1 hDL hD2 hD3 F N
  refine law_lit (b' := _ :: _) (sc := ⟨_, _, _, _, _⟩) rfl rfl ?_
  k_steps
  rename News _ _ _ _ => N9
  rename_i g9 u9 o9 d9 k9 h9 tk9 g0 g1 H9 hd9 hka9 hkb9 F9
  refine KTb.item_tup (ws := fulls) (News.isTup N9 (.head _)) (.cons _ _ (.cons _ _ (.cons _ _ (.cons _ _ (.cons _ _ (.cons _ _ (.cons _ _ (.cons _ _ (.cons _ _ .nil))))))))) g0 g1 (by omega) (fun t5 _ => ?_) (by with_unfolding_all rfl)
  have hx := fulls_len g9.toNat
  have hy := spell_len mk
  generalize fulls.getD g9.toNat Str.empty = xx at hx ⊢
  k_steps
  unfold Hold
  rename Fr _ _ _ _ => F5
  rename News _ _ _ _ => N5
  refine H6 w mean mg mb h₀ a cd L _ _ Q E K0 X T (fun h' tk' m' nl F' N' => hQ h' tk' m' nl F' N') hE n nr (spellS mk ++ xx) t1 t2 t4 _ oc D2 ys ns hn hnr ?_ hS hnl hns D o9 d9 sd k9 H9 hd9 hs ?_ ?_ hDL hD2 hD3 (kst_of F5 (by kst_all)) (fun p hp => N5 p (.tail _ hp))
  · rw [Str.length_append]; omega
  · omega
  · omega
end

end
-- L_C2
section
open PySem.Heap PySem.Calls PyProof.V PySem.Spec
set_option maxHeartbeats 8000000
set_option maxHeartbeats 1200000
theorem tail_len (n : Nat) : (tailAt n).1.length ≤ 6 := getD_all (P := fun x : Str × Int => x.1.length ≤ 6) (by decide +kernel) (by decide +kernel) n
theorem near_len {x : Str} (h : x ∈ nears) : x.length ≤ 6 := by
  have : x = nears[0] ∨ x = nears[1] ∨ x = nears[2] ∨ x = nears[3] := by simpa [nears] using h
  rcases this with rfl | rfl | rfl | rfl <;> decide +kernel
theorem near_norm : ∀ n < 10, ∀ x ∈ nears, normS (x ++ (tailAt n).1) = x ++ (tailAt n).1 := by decide +kernel
section
local macro_rules | `(tactic| walk_at "execs cons") => `(tactic| (k_here; (with_reducible show wpAny _ _ (execs (Stmt.For (Expr.Name _ _) _ _ _ _ :: _) _) _ _ _); refine hold ?_))
theorem law_C2 (H9 : Law9) : Law6 := by
  unfold Law6
  intro w mean mg mb h₀ a cd L m s Q E K0
  k_fill
  intro X T hQ hE n nr full t1 t2 t4 t5 oc D2 ys ns hn hnr hfl hS hnl hns D o d sd k H hd0 hs hk0 hk1 hDL hD2 hD3 F N
  have htl := tail_len n
  have hnl2 := near_len hnr
  refine law_lit (b' := _ :: _) (sc := ⟨_, _, _, _, _⟩) rfl rfl ?_
  k_steps
  · exfalso
    rename_i q
    rw [near_norm n hn nr hnr] at q
    simp at q
  · unfold Hold
    rename Fr _ _ _ _ => F5
    rename News _ _ _ _ => N5
    unfold Law9 isIn at H9
    refine H9 w mean mg mb h₀ a cd L _ _ Q E K0 X T (fun h' tk' m' nl F' N' => hQ h' tk' m' nl F' N') hE n full ?cut t1 t2 t5 ?tcut D2 ys ns _ hn hfl ?g0 ?g1 hS hnl hns (.tail _ (.head _)) (kst_of F5 ?kk) N5
    case kk => kst_all
    case g0 => assumption
    case g1 => omega
end

end
-- L_D
section
open PySem.Heap PySem.Calls PyProof.V PySem.Spec
set_option maxHeartbeats 8000000
set_option maxHeartbeats 1200000
theorem menu_len : ∀ x ∈ menu, x.length ≤ 50 := by decide +kernel
theorem menu_par : ∀ x ∈ menu, (parentsS x).length ≤ 3 ∧ ∀ y ∈ parentsS x, y.length ≤ 50 := by decide +kernel
theorem menu_pre : ∀ x ∈ menu, prefS x = parentsS x := by decide +kernel
def KnownB (ns : List Str) (r p : Str) (ss : List Str) : Prop := (p.cps.toList = [] → ss = []) ∧ (p.cps.toList ≠ [] → ss.Perm ((knownB ns (wholeS r p)).map (·.1)) ∧ sortedS ss = true)
def KnownL (ns : List Str) (r p : Str) (ss : List Str) : Prop := (p.cps.toList = [] → ss = []) ∧ (p.cps.toList ≠ [] → ss.Perm ((addTrue (knownL ns (lawFull r p))).map (·.1)) ∧ sortedS ss = true)
/-- the two readings tell the same -/
def PlainLaw : Prop := ∀ (ns : List Str) (r p : Str) (ss ss' : List Str), (∀ x ∈ ns, x ∈ menu) → KnownB ns r p ss → KnownL ns r p ss' → resB (knownB ns (wholeS r p)) (wholeS r p) ss = resL ns (lawFull r p) ss'
section
variable {w : World} {mean : ExcName → Option Value} {mg mb : Str → Option Value}
    {dp un : Nat} {gd : Option (List Code)} {cn : Str} {cs : Scope} {a : Addr} {ccd : Value} {cl : List (Str × Addr)} {outer : List Env} {A₀ : Around} {base h₀ : Heap} {L : Addr} {m : Str → Option Value} {own rest : Led} {s : Shared} {Q E : Value → Shared → Prop}
    {l : Addr} {vs : List Value} {nn : Nat} {ns : List Str} {r p : Str} {t t' : Tok}
theorem use_l219 (hS : StrsAre vs ns) (hns : ∀ x ∈ ns, x ∈ menu) (hl : ns.length ≤ 8) (hr : r.length ≤ 90) (hp : p.length ≤ 90) (B : Below A₀ base outer h₀) (F : Fr h₀ L s.heap m) (X : (hd.heap_39 w.params).In h₀) (N : News h₀ L s.heap (own ++ rest)) (T : Top hd.view_39 (looseW hd.view_39 [Str.ofString "PostError"]) mean mg mb h₀) (hk : cs.kind = .function)
    (hd : dp + 4 < recursionLimit) (hu : un + 120 < cLine) (hm : (l, listOf vs.toArray nn) ∈ own ++ rest)
    (ret : ∀ own' D ys k ss h' tk', Fr h₀ L h' m → News h₀ L h' (own' ++ rest) → (∀ q ∈ own, q ∈ own') → (D, listOf ys.toArray k) ∈ own' → KnownB ns r p ss → TupsAre own' ys (resB (knownB ns (wholeS r p)) (wholeS r p) ss) → Q (.ref D) { s with heap := h', toks := tk' }) :
    wpAny (model PySem.Challenge.rw_pq0938_01.row.prog w) (ktrTop dp un gd cn cs L a ccd cl outer) (call (.ref 219) [.ref l, .str r t, .str p t']) Q E s :=
  c_list_names w mean mg mb l vs nn ns r p t t' hS (fun x hx => menu_len x (hns x hx)) hl (fun x hx => menu_par x (hns x hx)) hr hp dp un gd cn cs a ccd cl outer A₀ base h₀ L m (own ++ rest) s Q E B F X N T hk hd hu hm fun v tl h' tk' F' N' ⟨ss, k1, k2, D, ys, k, e, hD, hT⟩ => by
    subst e
    rw [← List.append_assoc] at N'
    exact ret (tl ++ own) D ys k ss h' tk' F' N' (fun q hq => List.mem_append_right _ hq) (List.mem_append_left _ hD) ⟨k1, k2⟩ (hT.mono fun q hq => List.mem_append_left _ hq)
theorem use_l267 (hS : StrsAre vs ns) (hns : ∀ x ∈ ns, x ∈ menu) (hl : ns.length ≤ 8) (hr : r.length ≤ 90) (hp : p.length ≤ 90) (B : Below A₀ base outer h₀) (F : Fr h₀ L s.heap m) (X : (hd.heap_39 w.params).In h₀) (N : News h₀ L s.heap (own ++ rest)) (T : Top hd.view_39 (looseW hd.view_39 [Str.ofString "PostError"]) mean mg mb h₀) (hk : cs.kind = .function)
    (hd : dp + 300 < recursionLimit) (hu : un + 3000 < cLine) (hm : (l, listOf vs.toArray nn) ∈ own ++ rest)
    (ret : ∀ own' D ys k ss h' tk', Fr h₀ L h' m → News h₀ L h' (own' ++ rest) → (∀ q ∈ own, q ∈ own') → (D, listOf ys.toArray k) ∈ own' → KnownL ns r p ss → TupsAre own' ys (resL ns (lawFull r p) ss) → Q (.ref D) { s with heap := h', toks := tk' }) :
    wpAny (model PySem.Challenge.rw_pq0938_01.row.prog w) (ktrTop dp un gd cn cs L a ccd cl outer) (call (.ref 267) [.ref l, .str r t, .str p t']) Q E s :=
  c_law_list w mean mg mb l vs nn ns r p t t' hS (fun x hx => menu_len x (hns x hx)) hl (fun x hx => menu_par x (hns x hx)) (fun x hx => menu_pre x (hns x hx)) hr hp dp un gd cn cs a ccd cl outer A₀ base h₀ L m (own ++ rest) s Q E B F X N T hk hd hu hm fun v tl h' tk' F' N' ⟨ss, k1, k2, D, ys, k, e, hD, hT⟩ => by
    subst e
    rw [← List.append_assoc] at N'
    exact ret (tl ++ own) D ys k ss h' tk' F' N' (fun q hq => List.mem_append_right _ hq) (List.mem_append_left _ hD) ⟨k1, k2⟩ (hT.mono fun q hq => List.mem_append_left _ hq)
end
theorem lists_ne2 {prog : Program} {w : World} {A : Around} {E : Value → Shared → Prop} {s : Shared} {h₀ : Heap} {L : Addr} {own1 own2 rest : Led} {ys ys2 : List Value} {rs rs2 : List (Str × Bool)} {a b : Addr} {n n2 : Nat} {Q : Value → Shared → Prop} (N : News h₀ L s.heap (own2 ++ rest)) (i : ∀ q ∈ own1, q ∈ own2)
    (m1 : (a, listOf ys.toArray n) ∈ own1) (h1 : TupsAre own1 ys rs) (m2 : (b, listOf ys2.toArray n2) ∈ own2) (h2 : TupsAre own2 ys2 rs2) (e : rs = rs2)
    (hu : A.units + 4 < cLine) (h : Q (.bool false) s) : wpAny (model prog w) A (compareOp .NotEq (.ref a) (.ref b)) Q E s :=
  lists_ne N (h1.mono fun q hq => List.mem_append_left _ (i q hq)) (h2.mono fun q hq => List.mem_append_left _ hq) e (List.mem_append_left _ (i _ m1)) (List.mem_append_left _ m2) hu h
theorem step_news {h₀ h : Heap} {L : Addr} {o0 o1 o2 rest : Led} (N : News h₀ L h (o2 ++ rest)) (i2 : ∀ q ∈ o1, q ∈ o2) (i1 : ∀ q ∈ o0, q ∈ o1) : News h₀ L h (o0 ++ rest) := fun q hq =>
  (List.mem_append.mp hq).elim (fun h => N q (List.mem_append_left _ (i2 q (i1 q h)))) fun h => N q (List.mem_append_right _ h)
section
local macro_rules | `(tactic| walk_at "LoopStep3") => `(tactic| (k_here; k_dflt (refine' LoopStep3.next (LoopStep2.intro ?F (step_news ?N ?i2 ?i1) rfl ?_); (case F => k_asm); (case N => k_asm); (case i2 => assumption); (case i1 => assumption); k_whole)))
local macro_rules | `(tactic| walk_at "call ref") => `(tactic| (k_here; (with_reducible show wpAny _ _ (call (Value.ref 219) _) _ _ _); k_dflt (refine' use_l219 ?hS ?hns ?hl ?hr ?hp ?k1 ?k2 ?k3 ?k4 ?k5 ?kK ?kd ?ku ?hm ?_; walk_at "mine ctx"; (case hS => assumption); (case hns => assumption); (case hl => assumption); (case hr => omega); (case hp => omega); (case hm => repeat (first | assumption | exact List.mem_cons_self | refine List.mem_append_right _ ?_ | refine List.mem_cons_of_mem _ ?_))); intro own9 D9 ys9 k9 ss9 h9 tk9 F9 N9 i9 m9 K9 T9))
local macro_rules | `(tactic| walk_at "call ref") => `(tactic| (k_here; (with_reducible show wpAny _ _ (call (Value.ref 267) _) _ _ _); k_dflt (refine' use_l267 ?hS ?hns ?hl ?hr ?hp ?k1 ?k2 ?k3 ?k4 ?k5 ?kK ?kd ?ku ?hm ?_; walk_at "mine ctx"; (case hS => assumption); (case hns => assumption); (case hl => assumption); (case hr => omega); (case hp => omega); (case hm => repeat (first | assumption | exact List.mem_cons_self | refine List.mem_append_right _ ?_ | refine List.mem_cons_of_mem _ ?_))); intro own9 D9 ys9 k9 ss9 h9 tk9 F9 N9 i9 m9 K9 T9))
local macro_rules | `(tactic| walk_at "compareOp NotEq ref ref") => `(tactic| (k_here; k_dflt (refine' lists_ne2 ?N ?i ?m1 ?t1 ?m2 ?t2 ?e ?hu ?_; (case N => k_asm); (case i => assumption); (case m1 => assumption); (case t1 => assumption); (case m2 => assumption); (case t2 => assumption); (case e => exact (by assumption : PlainLaw) _ _ _ _ _ (by assumption) (by assumption) (by assumption)); (case hu => first | ktr_units | decide); k_whole)))
theorem law_D (hP : PlainLaw) : Law10 := by
  unfold Law10
  intro w mean mg mb h₀ a cd L m s Q E K0
  k_fill
  intro X T hQ hE full cut t5 t6 D2 ys ns news hfl hc0 hc1 hS hnl hns hm2 F N
  replace hE := fun _ : True => hE
  have hsl : (Str.ofString "/").length = 1 := by decide +kernel
  refine law_lit (b' := _ :: _) (sc := ⟨_, _, _, _, _⟩) rfl rfl ?_
  k_steps
  · rename_i h7 tk7 F7 N7
    exact hQ h7 _ _ _ F7 N7
  · exact hE trivial
end

end
-- PlainNf
section
/-- from c to x by wild signs alone -/
def reach (p : List Nat) (c x : Nat) : Prop := c ≤ x ∧ ∀ j, c ≤ j → j < x → wildAt p j = true
theorem reach_refl (p : List Nat) (c : Nat) : reach p c c := ⟨Nat.le_refl _, fun j h1 h2 => absurd h1 (by omega)⟩
theorem opens_no {pl : List Nat} {c : Nat} (h : opens pl c = false) : ∃ d ∈ pl, c ≤ d := by
  unfold opens at h
  split at h
  · cases h
  · rename_i d e
    exact ⟨d, List.mem_of_getLast? e, by simpa using h⟩
theorem opF_mem {p hs : List Nat} {c0 : Nat} (hh : ∀ h ∈ hs, h ≤ c0) : ∀ (k : Nat) (pl : List Nat) (c : Nat), p.length ≤ c + k → reach p c0 c →
    (∀ x, x ∈ pl ↔ (∃ h ∈ hs, reach p h x) ∨ (c0 ≤ x ∧ x < c)) → ∀ x, x ∈ opF p pl c ↔ (∃ h ∈ hs, reach p h x) ∨ reach p c0 x := by
  have fin : ∀ (pl : List Nat) (c : Nat), reach p c0 c → (∀ x, x ∈ pl ↔ (∃ h ∈ hs, reach p h x) ∨ (c0 ≤ x ∧ x < c)) → wildAt p c = false → ∀ x, x ∈ pl ++ [c] ↔ (∃ h ∈ hs, reach p h x) ∨ reach p c0 x := by
    intro pl c r hp hw x
    rw [List.mem_append, hp, List.mem_singleton]
    constructor
    · rintro ((h | ⟨h1, h2⟩) | rfl)
      · exact .inl h
      · exact .inr ⟨h1, fun j a b => r.2 j a (by omega)⟩
      · exact .inr r
    · rintro (h | h)
      · exact .inl (.inl h)
      · rcases Nat.lt_trichotomy x c with h2 | h2 | h2
        · exact .inl (.inr ⟨h.1, h2⟩)
        · exact .inr h2
        · have := h.2 c r.1 h2
          rw [hw] at this; cases this
  have stop : ∀ (pl : List Nat) (c : Nat), reach p c0 c → (∀ x, x ∈ pl ↔ (∃ h ∈ hs, reach p h x) ∨ (c0 ≤ x ∧ x < c)) → opens pl c = false → ∀ x, x ∈ pl ↔ (∃ h ∈ hs, reach p h x) ∨ reach p c0 x := by
    intro pl c r hp ho x
    obtain ⟨d, hd, hcd⟩ := opens_no ho
    rcases (hp d).mp hd with ⟨h, hm, rh⟩ | ⟨_, h2⟩
    · rw [hp]
      constructor
      · rintro (h | ⟨h1, h2⟩)
        · exact .inl h
        · exact .inr ⟨h1, fun j a b => r.2 j a (by omega)⟩
      · rintro (h | h1)
        · exact .inl h
        · refine .inl ⟨h, hm, Nat.le_trans (hh h hm) h1.1, fun j a b => ?_⟩
          by_cases hj : j < d
          · exact rh.2 j a hj
          · exact h1.2 j (by have := r.1; omega) b
    · omega
  intro k
  induction k with
  | zero =>
    intro pl c hk r hp
    have hw : wildAt p c = false := by
      cases h : wildAt p c with
      | false => rfl
      | true => have := wild_lt h; omega
    cases ho : opens pl c with
    | true => rw [opF_last ho hw]; exact fin pl c r hp hw
    | false => rw [opF_stop ho]; exact stop pl c r hp ho
  | succ k ih =>
    intro pl c hk r hp
    cases ho : opens pl c with
    | false => rw [opF_stop ho]; exact stop pl c r hp ho
    | true =>
      cases hw : wildAt p c with
      | false => rw [opF_last ho hw]; exact fin pl c r hp hw
      | true =>
        rw [opF_wild ho hw]
        refine ih _ _ (by omega) ⟨by have := r.1; omega, fun j a b => ?_⟩ ?_
        · by_cases hj : j < c
          · exact r.2 j a hj
          · rw [show j = c by omega]; exact hw
        · intro x
          rw [List.mem_append, hp, List.mem_singleton]
          have := r.1
          constructor
          · rintro ((h | ⟨h1, h2⟩) | rfl)
            · exact .inl h
            · exact .inr ⟨h1, by omega⟩
            · exact .inr ⟨r.1, by omega⟩
          · rintro (h | ⟨h1, h2⟩)
            · exact .inl (.inl h)
            · rcases Nat.lt_trichotomy x c with h3 | h3 | h3
              · exact .inl (.inr ⟨h1, h3⟩)
              · exact .inr h3
              · omega
theorem opFold_mem {p : List Nat} : ∀ (hs done pl : List Nat), (done ++ hs).Pairwise (· ≤ ·) → (∀ x, x ∈ pl ↔ ∃ h ∈ done, reach p h x) → ∀ x, x ∈ hs.foldl (opF p) pl ↔ ∃ h ∈ done ++ hs, reach p h x
  | [], done, pl, _, hp, x => by rw [List.append_nil]; exact hp x
  | c :: r, done, pl, hs, hp, x => by
    have e : done ++ c :: r = (done ++ [c]) ++ r := by simp
    rw [List.foldl_cons, e]
    refine opFold_mem r (done ++ [c]) _ (by rw [← e]; exact hs) (fun y => ?_) x
    have hh : ∀ h ∈ done, h ≤ c := fun h hm => (List.pairwise_append.mp hs).2.2 h hm c (.head _)
    have := opF_mem hh p.length pl c (by omega) (reach_refl p c) (fun x => by
      rw [hp]
      constructor
      · exact .inl
      · rintro (h | ⟨h1, h2⟩)
        · exact h
        · omega) y
    rw [this]
    constructor
    · rintro (⟨h, hm, hr⟩ | h)
      · exact ⟨h, List.mem_append_left _ hm, hr⟩
      · exact ⟨c, List.mem_append_right _ (.head _), h⟩
    · rintro ⟨h, hm, hr⟩
      rcases List.mem_append.mp hm with hm | hm
      · exact .inl ⟨h, hm, hr⟩
      · rw [List.mem_singleton.mp hm] at hr; exact .inr hr
theorem opAll_mem {p hs : List Nat} (h : hs.Pairwise (· ≤ ·)) (x : Nat) : x ∈ opAll p hs ↔ ∃ c ∈ hs, reach p c x := by
  have := opFold_mem (p := p) hs [] [] h (fun x => ⟨fun h => (nomatch h), fun ⟨_, h, _⟩ => (nomatch h)⟩) x
  rwa [List.nil_append] at this
/-- one of the places takes the rest of the name -/
def Acc (n : List Nat) (most : Nat) (p : List Nat) (S : List Nat) (i : Nat) : Prop := ∃ c ∈ S, meetsN n most (p.drop c) i = true
theorem drop_at {p : List Nat} {c a : Nat} (h : p[c]? = some a) : p.drop c = a :: p.drop (c + 1) := by
  obtain ⟨hl, e⟩ := List.getElem?_eq_some_iff.mp h
  rw [List.drop_eq_getElem_cons hl, e]
theorem wild_some {p : List Nat} {c : Nat} (h : wildAt p c = true) : ∃ a, p[c]? = some a ∧ (a = 37 ∨ a = 42) := by
  unfold wildAt at h
  split at h
  · rename_i k e
    exact ⟨k, e, by simpa using h⟩
  · cases h
theorem wild_of {p : List Nat} {c a : Nat} (h : p[c]? = some a) (ha : a = 37 ∨ a = 42) : wildAt p c = true := by
  unfold wildAt; rw [h]; simpa using ha
theorem reach_meets {n : List Nat} {most : Nat} {p : List Nat} {i : Nat} : ∀ (k : Nat) {c x : Nat}, x = c + k → reach p c x → meetsN n most (p.drop x) i = true → meetsN n most (p.drop c) i = true
  | 0, c, x, e, _, h => by rw [show c = x by omega]; exact h
  | k + 1, c, x, e, r, h => by
    obtain ⟨a, ha, hw⟩ := wild_some (r.2 c (Nat.le_refl _) (by omega))
    have := reach_meets (c := c + 1) (x := x) k (by omega) ⟨by omega, fun j h1 h2 => r.2 j (by omega) h2⟩ h
    rw [drop_at ha, meets_star hw, this, Bool.true_or]
theorem acc_open {n : List Nat} {most : Nat} {p hs : List Nat} {i : Nat} (h : hs.Pairwise (· ≤ ·)) : Acc n most p (opAll p hs) i ↔ Acc n most p hs i := by
  constructor
  · rintro ⟨x, hx, hm⟩
    obtain ⟨c, hc, r⟩ := (opAll_mem h x).mp hx
    exact ⟨c, hc, reach_meets (x - c) (by have := r.1; omega) r hm⟩
  · rintro ⟨c, hc, hm⟩
    exact ⟨c, (opAll_mem h c).mpr ⟨c, hc, reach_refl p c⟩, hm⟩
def Closed (p S : List Nat) : Prop := ∀ c ∈ S, wildAt p c = true → c + 1 ∈ S
theorem opAll_closed {p hs : List Nat} (h : hs.Pairwise (· ≤ ·)) : Closed p (opAll p hs) := by
  intro c hc hw
  obtain ⟨d, hd, r⟩ := (opAll_mem h c).mp hc
  refine (opAll_mem h (c + 1)).mpr ⟨d, hd, by have := r.1; omega, fun j h1 h2 => ?_⟩
  by_cases hj : j < c
  · exact r.2 j h1 hj
  · rw [show j = c by omega]; exact hw
theorem stepHead_app (p : List Nat) (b : Nat) (any : Bool) (hs : List Nat) (c : Nat) : stepHead p b any hs c = hs ++ stepHead p b any [] c := by
  unfold stepHead
  split
  · simp
  · split
    · rfl
    · split
      · rfl
      · simp
theorem heads_fold (p : List Nat) (b : Nat) (any : Bool) : ∀ (S hs : List Nat), S.foldl (stepHead p b any) hs = hs ++ S.flatMap (stepHead p b any [])
  | [], hs => by simp
  | c :: r, hs => by rw [List.foldl_cons, heads_fold p b any r, stepHead_app, List.flatMap_cons, List.append_assoc]
theorem headsOf_eq (p : List Nat) (b : Nat) (any : Bool) (S : List Nat) : headsOf p b any S = S.flatMap (stepHead p b any []) := by
  unfold headsOf; rw [heads_fold]; rfl
theorem stepHead_in {p : List Nat} {b : Nat} {any : Bool} {c h : Nat} (hm : h ∈ stepHead p b any [] c) : h = c ∨ h = c + 1 := by
  unfold stepHead at hm
  split at hm
  · cases hm
  · split at hm
    · exact .inl (by simpa using hm)
    · split at hm
      · exact .inr (by simpa using hm)
      · cases hm
theorem stepHead_one {p : List Nat} {b : Nat} {any : Bool} {c : Nat} : (stepHead p b any [] c).Pairwise (· ≤ ·) := by
  unfold stepHead
  split
  · exact .nil
  · split
    · simp
    · split
      · simp
      · exact .nil
theorem headsOf_up {p : List Nat} {b : Nat} {any : Bool} : ∀ {S : List Nat}, Rising S → (headsOf p b any S).Pairwise (· ≤ ·) := by
  intro S
  rw [headsOf_eq]
  induction S with
  | nil => intro _; exact .nil
  | cons c r ih =>
    intro h
    rw [List.flatMap_cons, List.pairwise_append]
    refine ⟨stepHead_one, ih h.tail, fun x hx y hy => ?_⟩
    obtain ⟨d, hd, hy⟩ := List.mem_flatMap.mp hy
    have := List.rel_of_pairwise_cons h hd
    rcases stepHead_in hx with rfl | rfl <;> rcases stepHead_in hy with rfl | rfl <;> omega
theorem head_wild {p : List Nat} {b a : Nat} {any : Bool} {c : Nat} (e : p[c]? = some a) (ha : a = 42 ∨ (a = 37 ∧ b ≠ 47)) : c ∈ stepHead p b any [] c := by
  unfold stepHead; rw [e]; simp only [if_pos ha]; simp
theorem head_lit {p : List Nat} {b a : Nat} {any : Bool} {c : Nat} (e : p[c]? = some a) (ha : ¬ (a = 37 ∨ a = 42)) (h : met1 a b any = true) : c + 1 ∈ stepHead p b any [] c := by
  unfold stepHead; rw [e]; simp only
  rw [if_neg (fun q => ha (by rcases q with q | q; exact .inr q; exact .inl q.1)), if_pos ⟨fun q => ha (.inl q), h⟩]; simp
theorem head_inv {p : List Nat} {b : Nat} {any : Bool} {c h : Nat} (hm : h ∈ stepHead p b any [] c) : ∃ a, p[c]? = some a ∧ ((h = c ∧ (a = 42 ∨ (a = 37 ∧ b ≠ 47))) ∨ (h = c + 1 ∧ ¬ (a = 37 ∨ a = 42) ∧ met1 a b any = true)) := by
  unfold stepHead at hm
  split at hm
  · cases hm
  · rename_i a e
    refine ⟨a, e, ?_⟩
    split at hm
    · rename_i q; exact .inl ⟨by simpa using hm, q⟩
    · rename_i q
      split at hm
      · rename_i q2; exact .inr ⟨by simpa using hm, fun r => r.elim q2.1 (fun r => q (.inl r)), q2.2⟩
      · cases hm
/-- the name's first signs are capitals that INBOX has, as far as any case goes -/
def CapsTo (n : List Nat) (most : Nat) : Prop := ∀ i, i < most → n.getD i 0 ∈ [73, 78, 66, 79, 88]
theorem caps_low {a b : Nat} (hb : b ∈ [73, 78, 66, 79, 88]) (e : a = b + 32) : a ∈ [105, 110, 98, 111, 120] := by
  subst e
  simp only [List.mem_cons, List.not_mem_nil, or_false] at hb
  rcases hb with rfl | rfl | rfl | rfl | rfl <;> decide
theorem caps_at {b : Nat} (hb : b ∈ [73, 78, 66, 79, 88]) : b < 97 := by
  simp only [List.mem_cons, List.not_mem_nil, or_false] at hb
  rcases hb with rfl | rfl | rfl | rfl | rfl <;> decide
theorem up_law {a b i most : Nat} (h : i < most) (hb : b ∈ [73, 78, 66, 79, 88]) : (up a == b) = (lawUp a i most == b) := by
  by_cases ha : a ∈ [105, 110, 98, 111, 120]
  · have e : up a = lawUp a i most := by
      unfold lawUp
      rw [if_pos h]
      simp only [List.mem_cons, List.not_mem_nil, or_false] at ha
      rcases ha with rfl | rfl | rfl | rfl | rfl <;> rfl
    rw [e]
  · rw [lawUp_no ha]
    unfold up
    split
    · rename_i hl
      rw [beq_eq_false_iff_ne.mpr (fun e => ha (caps_low hb (Nat.eq_add_of_sub_eq (Nat.le_trans (by decide) hl.1) e))), beq_eq_false_iff_ne.mpr (fun e : a = b => Nat.lt_irrefl _ (Nat.lt_of_lt_of_le (caps_at hb) (Nat.le_trans hl.1 (Nat.le_of_eq e))))]
    · rfl
theorem met_law {n : List Nat} {most i a : Nat} (hc : CapsTo n most) : met1 a (n.getD i 0) (decide (i < most)) = (lawUp a i most == n.getD i 0) := by
  unfold met1
  by_cases h : i < most
  · rw [decide_eq_true h, if_pos rfl]
    exact up_law h (hc i h)
  · rw [decide_eq_false h]
    unfold lawUp
    rw [if_neg h]; rfl
theorem acc_step {n : List Nat} {most : Nat} {p S : List Nat} {i : Nat} (hc : CapsTo n most) (hi : i < n.length) (hS : Closed p S) : Acc n most p S i ↔ Acc n most p (headsOf p (n.getD i 0) (decide (i < most)) S) (i + 1) := by
  rw [headsOf_eq]
  constructor
  · rintro ⟨c, hm, h⟩
    have key : ∀ k c, p.length ≤ c + k → c ∈ S → meetsN n most (p.drop c) i = true → Acc n most p (S.flatMap (stepHead p (n.getD i 0) (decide (i < most)) [])) (i + 1) := by
      intro k
      induction k with
      | zero =>
        intro c hk _ h
        rw [List.drop_eq_nil_of_le (by omega), meetsN] at h
        have : i = n.length := by simpa using h
        omega
      | succ k ih =>
        intro c hk hm h
        cases e : p[c]? with
        | none =>
          rw [List.drop_eq_nil_of_le (List.getElem?_eq_none_iff.mp e), meetsN] at h
          have : i = n.length := by simpa using h
          omega
        | some a =>
          rw [drop_at e] at h
          by_cases ha : a = 37 ∨ a = 42
          · rw [meets_star ha, Bool.or_eq_true] at h
            rcases h with h | h
            · exact ih (c + 1) (by omega) (hS c hm (wild_of e ha)) h
            · rw [Bool.and_eq_true, Bool.and_eq_true] at h
              obtain ⟨_, h2, h3⟩ := h
              refine ⟨c, List.mem_flatMap.mpr ⟨c, hm, head_wild e ?_⟩, by rw [drop_at e]; exact h3⟩
              rcases ha with rfl | rfl
              · exact .inr ⟨rfl, by simpa using h2⟩
              · exact .inl rfl
          · rw [meets_lit ha, Bool.and_eq_true, Bool.and_eq_true, ← met_law hc] at h
            exact ⟨c + 1, List.mem_flatMap.mpr ⟨c, hm, head_lit e ha h.2.1⟩, h.2.2⟩
    exact key p.length c (by omega) hm h
  · rintro ⟨x, hx, h⟩
    obtain ⟨c, hm, hx⟩ := List.mem_flatMap.mp hx
    obtain ⟨a, e, ⟨rfl, q⟩ | ⟨rfl, q, q2⟩⟩ := head_inv hx
    · refine ⟨x, hm, ?_⟩
      have ha : a = 37 ∨ a = 42 := by rcases q with q | q; exact .inr q; exact .inl q.1
      rw [drop_at e] at h ⊢
      rw [meets_star ha, h, decide_eq_true hi, Bool.true_and, Bool.and_true]
      rcases q with rfl | ⟨rfl, q⟩
      · simp
      · have e4 : (n.getD i 0 != 47) = true := bne_iff_ne.mpr q
        rw [e4]; simp
    · refine ⟨c, hm, ?_⟩
      rw [drop_at e, meets_lit q, decide_eq_true hi, ← met_law hc, q2, h]; rfl
theorem placesAt_closed (p n : List Nat) (most : Nat) : ∀ i, Closed p (placesAt p n most i)
  | 0 => opAll_closed (by simp)
  | i + 1 => opAll_closed (headsOf_up (placesAt_rising p n most i))
theorem acc_at {n : List Nat} {most : Nat} {p : List Nat} (hc : CapsTo n most) : ∀ i, i ≤ n.length → (Acc n most p (placesAt p n most i) i ↔ meetsN n most p 0 = true)
  | 0, _ => by
    show Acc n most p (opAll p [0]) 0 ↔ _
    rw [acc_open (by simp)]
    constructor
    · rintro ⟨c, hc, h⟩
      rw [List.mem_singleton.mp hc] at h; exact h
    · exact fun h => ⟨0, .head _, h⟩
  | i + 1, hi => by
    rw [← acc_at hc i (by omega), acc_step hc (by omega) (placesAt_closed p n most i)]
    show Acc n most p (opAll p _) _ ↔ _
    rw [acc_open (headsOf_up (placesAt_rising p n most i))]
theorem acc_end {n : List Nat} {most : Nat} {p S : List Nat} (hS : Closed p S) (hr : Rising S) (hl : ∀ k ∈ S, k ≤ p.length) : Acc n most p S n.length ↔ S.getLast? = some p.length := by
  constructor
  · rintro ⟨c, hm, h⟩
    have key : ∀ k c, p.length ≤ c + k → c ∈ S → meetsN n most (p.drop c) n.length = true → p.length ∈ S := by
      intro k
      induction k with
      | zero =>
        intro c hk hm _
        have := hl c hm
        rw [show p.length = c by omega]; exact hm
      | succ k ih =>
        intro c hk hm h
        cases e : p[c]? with
        | none =>
          have := List.getElem?_eq_none_iff.mp e
          have := hl c hm
          rw [show p.length = c by omega]; exact hm
        | some a =>
          rw [drop_at e] at h
          by_cases ha : a = 37 ∨ a = 42
          · rw [meets_star ha, decide_eq_false (Nat.lt_irrefl _), Bool.false_and, Bool.or_false] at h
            exact ih (c + 1) (by omega) (hS c hm (wild_of e ha)) h
          · rw [meets_lit ha, decide_eq_false (Nat.lt_irrefl _), Bool.false_and] at h
            cases h
    have hin := key p.length c (by omega) hm h
    rcases List.eq_nil_or_concat S with e | ⟨q, d, e⟩
    · rw [e] at hin; cases hin
    · rw [List.concat_eq_append] at e
      subst e
      rw [List.getLast?_concat]
      rcases List.mem_append.mp hin with h1 | h1
      · have h2 := (List.pairwise_append.mp hr).2.2 _ h1 d (.head _)
        have h3 := hl d (List.mem_append_right _ (.head _))
        omega
      · rw [List.mem_singleton.mp h1]
  · intro h
    refine ⟨p.length, List.mem_of_getLast? h, ?_⟩
    rw [List.drop_length, meetsN]; simp
theorem listed_meets {n : List Nat} {most : Nat} {p : List Nat} (hc : CapsTo n most) : listedN p n most = meetsN n most p 0 := by
  refine Bool.eq_iff_iff.mpr ?_
  rw [← acc_at hc n.length (Nat.le_refl _), acc_end (placesAt_closed p n most _) (placesAt_rising p n most _) (placesAt_le p n most _)]
  unfold listedN
  rw [beq_iff_eq]

end
-- PlainLaw
section
open PySem PySem.W PyProof.Rows PySem.Spec PyProof.V
theorem str_ext {x y : Str} (h : x.cps.toList = y.cps.toList) : x = y := by
  rw [cps_of h]
def leS (a b : Str) : Prop := a.cps.toList ≤ b.cps.toList
theorem leS_of {a b : Str} (h : ltCps b.cps.toList a.cps.toList = false) : leS a b := by
  rw [ltCps_eq] at h
  exact of_decide_eq_false h
theorem risingS_pair : ∀ (l : List Str) (p : Str), risingS p l = true → (p :: l).Pairwise leS
  | [], _, _ => List.pairwise_singleton _ _
  | x :: r, p, h => by
    unfold risingS at h
    rw [Bool.and_eq_true, Bool.not_eq_true'] at h
    have ih := risingS_pair r x h.2
    refine .cons (fun y hy => ?_) ih
    have hpx := leS_of h.1
    rcases List.mem_cons.mp hy with rfl | hy
    · exact hpx
    · exact List.le_trans hpx (List.rel_of_pairwise_cons ih hy)
theorem sortedS_pair {l : List Str} (h : sortedS l = true) : l.Pairwise leS := by
  cases l with
  | nil => exact .nil
  | cons x r => exact risingS_pair r x h
theorem sorted_same : ∀ {l k : List Str}, l.Pairwise leS → k.Pairwise leS → l.Nodup → k.Nodup → (∀ x, x ∈ l ↔ x ∈ k) → l = k
  | [], [], _, _, _, _, _ => rfl
  | [], b :: k, _, _, _, _, h => nomatch (h b).mpr (.head _)
  | a :: l, [], _, _, _, _, h => nomatch (h a).mp (.head _)
  | a :: l, b :: k, h1, h2, n1, n2, h => by
    have e : a = b := by
      rcases List.mem_cons.mp ((h a).mp (.head _)) with e | ha
      · exact e
      · rcases List.mem_cons.mp ((h b).mpr (.head _)) with e | hb
        · exact e.symm
        · exact str_ext (List.le_antisymm (List.rel_of_pairwise_cons h1 hb) (List.rel_of_pairwise_cons h2 ha))
    subst e
    rw [List.nodup_cons] at n1 n2
    refine congrArg (a :: ·) (sorted_same (List.Pairwise.tail h1) (List.Pairwise.tail h2) n1.2 n2.2 fun x => ?_)
    constructor
    · intro hx
      rcases List.mem_cons.mp ((h x).mp (.tail _ hx)) with e | hk
      · subst e; exact absurd hx n1.1
      · exact hk
    · intro hx
      rcases List.mem_cons.mp ((h x).mpr (.tail _ hx)) with e | hk
      · subst e; exact absurd hx n2.1
      · exact hk
theorem hasB_iff {l : List (Str × Bool)} {x : Str} : hasB l x = true ↔ x ∈ l.map (·.1) := by
  refine ⟨fun h => ?_, has_of_mem⟩
  unfold hasB at h
  rw [List.any_eq_true] at h
  obtain ⟨p, hp, e⟩ := h
  exact List.mem_map.mpr ⟨p, hp, of_decide_eq_true e⟩
theorem putB_fst (l : List (Str × Bool)) (x : Str) (b : Bool) : (putB l x b).map (·.1) = if hasB l x = true then l.map (·.1) else l.map (·.1) ++ [x] := by
  unfold putB
  split
  · rw [List.map_map]
    refine List.map_congr_left fun p _ => ?_
    simp only [Function.comp]
    split <;> rfl
  · rw [List.map_append]; rfl
theorem putB_in {l : List (Str × Bool)} {x : Str} {b : Bool} {y : Str} : y ∈ (putB l x b).map (·.1) ↔ y = x ∨ y ∈ l.map (·.1) := by
  rw [putB_fst]
  split
  · rename_i h
    exact ⟨.inr, fun q => q.elim (fun e => by rw [e]; exact hasB_iff.mp h) id⟩
  · rw [List.mem_append, List.mem_singleton]; exact Or.comm
theorem putB_nodup {l : List (Str × Bool)} {x : Str} {b : Bool} (h : (l.map (·.1)).Nodup) : ((putB l x b).map (·.1)).Nodup := by
  rw [putB_fst]
  split
  · exact h
  · rename_i hx
    rw [List.nodup_append]
    refine ⟨h, by simp, fun a ha c hc => ?_⟩
    rw [List.mem_singleton.mp hc]
    rintro rfl
    exact hx (hasB_iff.mpr ha)
theorem addTrue_in : ∀ (ns : List Str) (k : List (Str × Bool)) (y : Str), y ∈ (ns.foldl (fun k x => putB k x true) k).map (·.1) ↔ y ∈ ns ∨ y ∈ k.map (·.1)
  | [], k, y => by simp
  | x :: r, k, y => by
    rw [List.foldl_cons, addTrue_in r, putB_in, List.mem_cons]
    constructor
    · rintro (h | h | h)
      · exact .inl (.inr h)
      · exact .inl (.inl h)
      · exact .inr h
    · rintro ((h | h) | h)
      · exact .inr (.inl h)
      · exact .inl h
      · exact .inr (.inr h)
theorem addTrue_nodup : ∀ (ns : List Str) (k : List (Str × Bool)), (k.map (·.1)).Nodup → ((ns.foldl (fun k x => putB k x true) k).map (·.1)).Nodup
  | [], _, h => h
  | _ :: r, _, h => addTrue_nodup r _ (putB_nodup h)
theorem addPar_in1 {k : List (Str × Bool)} {x y : Str} : y ∈ (addPar k x).map (·.1) ↔ y = x ∨ y ∈ k.map (·.1) := by
  unfold addPar
  split
  · rename_i h
    exact ⟨.inr, fun q => q.elim (fun e => by rw [e]; exact hasB_iff.mp h) id⟩
  · exact putB_in
theorem addPar_in : ∀ (ns : List Str) (k : List (Str × Bool)) (y : Str), y ∈ (ns.foldl addPar k).map (·.1) ↔ y ∈ ns ∨ y ∈ k.map (·.1)
  | [], k, y => by simp
  | x :: r, k, y => by
    rw [List.foldl_cons, addPar_in r, addPar_in1, List.mem_cons]
    constructor
    · rintro (h | h | h)
      · exact .inl (.inr h)
      · exact .inl (.inl h)
      · exact .inr h
    · rintro ((h | h) | h)
      · exact .inr (.inl h)
      · exact .inl h
      · exact .inr (.inr h)
theorem addPar_nodup : ∀ (ns : List Str) (k : List (Str × Bool)), (k.map (·.1)).Nodup → ((ns.foldl addPar k).map (·.1)).Nodup
  | [], _, h => h
  | x :: r, k, h => addPar_nodup r _ (by unfold addPar; split; exact h; exact putB_nodup h)
theorem addAll_in : ∀ (ns : List Str) (k : List (Str × Bool)) (y : Str), y ∈ (addAll k ns).map (·.1) ↔ (∃ x ∈ ns, y ∈ parentsS x) ∨ y ∈ k.map (·.1)
  | [], k, y => by simp [addAll]
  | x :: r, k, y => by
    have ih := addAll_in r ((parentsS x).foldl addPar k) y
    unfold addAll at ih ⊢
    rw [List.foldl_cons, ih, addPar_in]
    constructor
    · rintro (⟨z, hz, h⟩ | h | h)
      · exact .inl ⟨z, .tail _ hz, h⟩
      · exact .inl ⟨x, .head _, h⟩
      · exact .inr h
    · rintro (⟨z, hz, h⟩ | h)
      · rcases List.mem_cons.mp hz with rfl | hz
        · exact .inr (.inl h)
        · exact .inl ⟨z, hz, h⟩
      · exact .inr (.inr h)
theorem addAll_nodup : ∀ (ns : List Str) (k : List (Str × Bool)), (k.map (·.1)).Nodup → ((addAll k ns).map (·.1)).Nodup
  | [], _, h => h
  | x :: r, k, h => by
    have := addAll_nodup r _ (addPar_nodup (parentsS x) k h)
    unfold addAll at this ⊢
    exact this
theorem knownB_nodup (ns : List Str) (W : Str) : ((knownB ns W).map (·.1)).Nodup := by
  unfold knownB
  split
  · exact addAll_nodup _ _ (addTrue_nodup _ _ .nil)
  · exact addTrue_nodup _ _ .nil
/-- what is known of a name -/
theorem getB_all {l : List (Str × Bool)} (h : ∀ p ∈ l, p.2 = true) (x : Str) : getB l x = hasB l x := by
  unfold getB hasB
  induction l with
  | nil => rfl
  | cons p r ih =>
    rw [List.find?_cons, List.any_cons]
    cases e : decide (p.1 = x) with
    | true => simp only [Bool.true_or]; exact h p (.head _)
    | false => simp only [Bool.false_or]; exact ih fun q hq => h q (.tail _ hq)
theorem putB_true {l : List (Str × Bool)} {x : Str} (h : ∀ p ∈ l, p.2 = true) : ∀ p ∈ putB l x true, p.2 = true := by
  unfold putB
  split
  · intro p hp
    obtain ⟨q, hq, rfl⟩ := List.mem_map.mp hp
    split
    · rfl
    · exact h q hq
  · intro p hp
    rcases List.mem_append.mp hp with hp | hp
    · exact h p hp
    · rw [List.mem_singleton.mp hp]
theorem addTrue_true : ∀ (ns : List Str) (k : List (Str × Bool)), (∀ p ∈ k, p.2 = true) → ∀ p ∈ ns.foldl (fun k x => putB k x true) k, p.2 = true
  | [], _, h => h
  | _ :: r, _, h => addTrue_true r _ (putB_true h)
theorem addPar_get (k : List (Str × Bool)) (x y : Str) : getB (addPar k x) y = getB k y := by
  unfold addPar
  split
  · rfl
  · rename_i h
    unfold putB
    rw [if_neg h]
    unfold getB
    rw [List.find?_append]
    cases e : k.find? fun p => decide (p.1 = y) with
    | some p => rfl
    | none =>
      simp only [Option.none_or, List.find?_cons]
      cases e2 : decide (x = y) <;> rfl
theorem addPars_get : ∀ (ns : List Str) (k : List (Str × Bool)) (y : Str), getB (ns.foldl addPar k) y = getB k y
  | [], _, _ => rfl
  | x :: r, k, y => by rw [List.foldl_cons, addPars_get r, addPar_get]
theorem addAll_get : ∀ (ns : List Str) (k : List (Str × Bool)) (y : Str), getB (addAll k ns) y = getB k y
  | [], _, _ => rfl
  | x :: r, k, y => by
    have := addAll_get r ((parentsS x).foldl addPar k) y
    unfold addAll at this ⊢
    rw [List.foldl_cons, this, addPars_get]
theorem addTrue_get (ns : List Str) (y : Str) : getB (addTrue ns) y = ns.any fun z => z == y := by
  unfold addTrue
  rw [getB_all (addTrue_true ns [] (fun _ h => (nomatch h)))]
  refine Bool.eq_iff_iff.mpr ?_
  rw [hasB_iff, addTrue_in, List.any_eq_true]
  constructor
  · rintro (h | h)
    · exact ⟨y, h, beq_self_eq_true y⟩
    · cases h
  · rintro ⟨z, hz, e⟩
    rw [← eq_of_beq e]; exact .inl hz
theorem knownB_get (ns : List Str) (W y : Str) : getB (knownB ns W) y = ns.any fun z => z == y := by
  unfold knownB
  split
  · rw [addAll_get, addTrue_get]
  · exact addTrue_get ns y
/-- the texts' ends -/
theorem starts_slash {p : Str} {a : Nat} {q : List Nat} (h : p.cps.toList = a :: q) : Txt.startswith p (Str.ofString "/") = decide (a = 47) := by
  rw [cps_of h]
  unfold Txt.startswith Builtin.Str.subAt
  have e : (Str.ofString "/") = ⟨#[47]⟩ := cps_of cps_slash
  rw [e]
  by_cases hq : a = 47
  · subst hq; simp [Str.length]
  · simp [Str.length, hq]
theorem ends_pct (W : Str) : Txt.endswith W (Str.ofString "%") = lawPct W := by
  have e : (Str.ofString "%") = ⟨#[37]⟩ := cps_of cps_pct
  rcases List.eq_nil_or_concat W.cps.toList with h | ⟨l, a, h⟩
  · have : W = Str.ofString "" := str_ext (h.trans empty_cps.symm)
    subst this; decide +kernel
  · rw [List.concat_eq_append] at h
    have hl : W.length = l.length + 1 := by unfold Str.length; rw [← Array.length_toList, h]; simp
    have hs : Txt.slice W (some (-1)) none = ⟨#[a]⟩ := by
      rw [beq_iff_eq.mp (slice_closes_from_neg (x := W) (i := -1) (a := l.length) (b := l.length + 1) (by omega) (by omega) (by omega) (by omega)), h]
      simp
    unfold lawPct
    rw [hs, beq_sign cps_pct]
    unfold Txt.endswith Builtin.Str.subAt
    rw [e, cps_of h]
    by_cases hq : a = 37
    · subst hq; simp [Str.length]
    · simp [Str.length, hq]
theorem whole_full {r p : Str} (h : p.cps.toList ≠ []) : wholeS r p = lawFull r p := by
  unfold wholeS lawFull
  cases e : p.cps.toList with
  | nil => exact absurd e h
  | cons a q => rw [starts_slash e, item_0 e, beq_sign cps_slash]
/-- the names that can be known, and where they have letters of INBOX ahead -/
theorem menu_most : ∀ x ∈ menu ++ menu.flatMap parentsS, (anyLen x).toNat = lawMost x ∧ (lawMost x = 0 ∨ (lawMost x = 5 ∧ x.cps.toList.take 5 = [73, 78, 66, 79, 88])) := by decide +kernel
theorem caps_of {x : Str} (h : lawMost x = 0 ∨ (lawMost x = 5 ∧ x.cps.toList.take 5 = [73, 78, 66, 79, 88])) : CapsTo x.cps.toList (lawMost x) := by
  intro i hi
  rcases h with h | ⟨h, e⟩
  · omega
  · rw [h] at hi
    have : x.cps.toList.getD i 0 = (x.cps.toList.take 5).getD i 0 := by
      rw [List.getD_eq_getElem?_getD, List.getD_eq_getElem?_getD, List.getElem?_take, if_pos hi]
    rw [this, e]
    match i, hi with
    | 0, _ | 1, _ | 2, _ | 3, _ | 4, _ => decide
theorem knownB_in {ns : List Str} {W y : Str} : y ∈ (knownB ns W).map (·.1) ↔ y ∈ ns ∨ (lawPct W = true ∧ ∃ x ∈ ns, y ∈ parentsS x) := by
  unfold knownB addTrue
  rw [ends_pct]
  split
  · rename_i h
    rw [addAll_in, addTrue_in]
    constructor
    · rintro (q | q | q)
      · exact .inr ⟨h, q⟩
      · exact .inl q
      · cases q
    · rintro (q | ⟨_, q⟩)
      · exact .inr (.inl q)
      · exact .inl q
  · rename_i h
    rw [addTrue_in]
    constructor
    · rintro (q | q)
      · exact .inl q
      · cases q
    · rintro (q | ⟨q, _⟩)
      · exact .inl q
      · exact absurd q h
theorem knownL_in {ns : List Str} {W y : Str} (hp : ∀ x ∈ ns, prefS x = parentsS x) : y ∈ (addTrue (knownL ns W)).map (·.1) ↔ y ∈ ns ∨ (lawPct W = true ∧ ∃ x ∈ ns, y ∈ parentsS x) := by
  unfold addTrue
  rw [addTrue_in]
  unfold knownL
  split
  · rename_i h
    rw [List.mem_append, List.mem_flatMap]
    constructor
    · rintro ((q | ⟨x, hx, q⟩) | q)
      · exact .inl q
      · exact .inr ⟨h, x, hx, by rw [← hp x hx]; exact q⟩
      · cases q
    · rintro (q | ⟨_, x, hx, q⟩)
      · exact .inl (.inl q)
      · exact .inl (.inr ⟨x, hx, by rw [hp x hx]; exact q⟩)
  · rename_i h
    constructor
    · rintro (q | q)
      · exact .inl q
      · cases q
    · rintro (q | ⟨q, _⟩)
      · exact .inl q
      · exact absurd q h
theorem plain_law : PlainLaw := by
  intro ns r p ss ss' hns ⟨k1, k2⟩ ⟨j1, j2⟩
  by_cases hp : p.cps.toList = []
  · rw [k1 hp, j1 hp]; rfl
  · obtain ⟨p1, s1⟩ := k2 hp
    obtain ⟨p2, s2⟩ := j2 hp
    rw [whole_full hp] at p1 ⊢
    generalize lawFull r p = W at p1 p2
    have hpre : ∀ x ∈ ns, prefS x = parentsS x := fun x hx => menu_pre x (hns x hx)
    have e : ss = ss' := sorted_same (sortedS_pair s1) (sortedS_pair s2) (p1.symm.nodup (knownB_nodup _ _)) (p2.symm.nodup (addTrue_nodup _ _ .nil)) fun x => by
      rw [p1.mem_iff, p2.mem_iff, knownB_in, knownL_in hpre]
    subst e
    have hin : ∀ x ∈ ss, x ∈ menu ++ menu.flatMap parentsS := by
      intro x hx
      rw [p1.mem_iff, knownB_in] at hx
      rcases hx with hx | ⟨_, z, hz, hx⟩
      · exact List.mem_append_left _ (hns x hx)
      · exact List.mem_append_right _ (List.mem_flatMap.mpr ⟨z, hns z hz, hx⟩)
    unfold resB resL
    have e1 : ss.filter (fun x => listedN W.cps.toList x.cps.toList (anyLen x).toNat) = ss.filter fun x => meetsN x.cps.toList (lawMost x) W.cps.toList 0 := by
      refine List.filter_congr fun x hx => ?_
      obtain ⟨m1, m2⟩ := menu_most x (hin x hx)
      rw [m1, listed_meets (caps_of m2)]
    rw [e1]
    refine List.map_congr_left fun x _ => ?_
    rw [knownB_get]

end
-- PlainSp
section
set_option maxHeartbeats 8000000
def nameAt (x : Int) (n : Nat) : Str := (if isIn n then Str.ofString "INBOX" else spellS x) ++ (tailAt n).1
theorem sp_norm : ∀ x : Nat, x < 32 → normS (spellS (x : Int)) = Str.ofString "INBOX" := by decide +kernel
theorem sp_norm2 : ∀ x : Nat, x < 32 → ∀ n : Nat, n < 10 → normS (spellS (x : Int) ++ (tailAt n).1) = nameAt x n := by decide +kernel
theorem sp_chk1 : ∀ n : Nat, n < 10 → isIn n = true → checkN (Str.ofString "INBOX" ++ (tailAt n).1) = if 0 ≤ (tailAt n).2 then some (tailAt n).2.toNat else none := by decide +kernel
theorem sp_chk2 : ∀ n : Nat, n < 10 → isIn n = false → ∀ x : Nat, x < 32 → checkN (spellS (x : Int) ++ (tailAt n).1) = if 0 ≤ (tailAt n).2 then some (tailAt n).2.toNat else none := by decide +kernel
theorem sp_wire (x : Nat) (hx : x < 32) (n : Nat) (hn : n < 10) : wireS (spellS (x : Int) ++ (tailAt n).1) = if 0 ≤ (tailAt n).2 then (Str.ofString "", (tailAt n).2) else (nameAt x n, -1) := by
  have hc : checkN (nameAt x n) = if 0 ≤ (tailAt n).2 then some (tailAt n).2.toNat else none := by
    unfold nameAt
    cases h : isIn n with
    | true => exact sp_chk1 n hn h
    | false => exact sp_chk2 n hn h x hx
  unfold wireS
  rw [sp_norm2 x hx n hn, hc]
  by_cases h : 0 ≤ (tailAt n).2
  · rw [if_pos h, if_pos h]
    show (Str.ofString "", (((tailAt n).2.toNat : Nat) : Int)) = _
    rw [Int.toNat_of_nonneg h]
  · rw [if_neg h, if_neg h]
theorem sp_ascii : ∀ x : Nat, x < 32 → ∀ n : Nat, n < 10 → ∀ c ∈ (spellS (x : Int) ++ (tailAt n).1).cps.toList, 32 ≤ c ∧ c ≤ 126 ∧ c ≠ 38 := by decide +kernel

end
-- PlainSp2
section
open PySem.Heap PySem.Calls PyProof.V PySem.Spec PySem.SeqAt
set_option maxHeartbeats 8000000
section
variable {prog : Program} {w : World} {A : Around} {E : Value → Shared → Prop} {s : Shared} {h₀ : Heap} {L : Addr}
/-- two ways that meet in one text -/
def JoinS (y : Str) (s : Shared) : Value → Shared → Prop := fun v s' => ∃ (u : Tok) (tk : Nat), v = .str y u ∧ s' = { s with toks := tk }
theorem join_str {t : Sem Value} {Q : Value → Shared → Prop} (y : Str) (h : wpAny (model prog w) A t (JoinS y s) E s) (h2 : ∀ u tk, Q (.str y u) { s with toks := tk }) : wpAny (model prog w) A t Q E s :=
  wpAny_mono h (fun v s' ⟨u, tk, e1, e2⟩ => by subst e1; subst e2; exact h2 u tk) fun _ _ h => h
theorem ne_same {x y : Str} {t u : Tok} {Q : Value → Shared → Prop} (e : x = y) (h : Q (.bool false) s) : wpAny (model prog w) A (compareOp .NotEq (.str x t) (.str y u)) Q E s := by
  subst e
  refine ne_str ?_
  rw [bne_self_eq_false]; exact h
theorem tups_ne {led : Led} {a b : Addr} {x y : Str} {i j : Int} {t t2 u u2 : Tok} {Q : Value → Shared → Prop} (N : News h₀ L s.heap led) (h1 : (a, tupOf [.str x t, .int i u]) ∈ led) (h2 : (b, tupOf [.str y t2, .int j u2]) ∈ led) (e : x = y) (e2 : i = j)
    (hu : A.units + 4 < cLine) (h : Q (.bool false) s) : wpAny (model prog w) A (compareOp .NotEq (.ref a) (.ref b)) Q E s := by
  subst e; subst e2
  have := RcNeAt.tuples (e := fun _ => true) (A := A) (s := s) (l := a) (b := b) (items := #[.str x t, .int i u]) (items2 := #[.str x t2, .int i u2]) ⟨_, N.get h1, rfl, _, rfl⟩ ⟨_, N.get h2, rfl, _, rfl⟩ (by omega) (fun j h1 h2 => by
      have hj : j = 0 ∨ j = 1 := by have : j < 2 := h1; omega
      rcases hj with rfl | rfl
      · have := EqAt.str_str (A := A.in1) (s := s) x t x t2
        rw [beq_self_eq_true] at this; exact this
      · have := EqAt.int_int (A := A.in1) (s := s) i u i u2
        rw [beq_self_eq_true] at this; exact this)
  exact cmp_ofNotEq (this prog w E Q h)
end
section
variable {w : World} {mean : ExcName → Option Value} {mg mb : Str → Option Value} {x : Int} {n : Nat} {t : Tok}
theorem c_norm1 (h0 : 0 ≤ x) (h1 : x < 32) : ConS w mean mg mb 151 2 40 (fun _ => True) [.str (spellS x) t] (Str.ofString "INBOX") := by
  obtain ⟨k, rfl⟩ := Int.eq_ofNat_of_zero_le h0
  rw [← sp_norm k (by omega)]
  exact c_normal_name w mean mg mb _ t (by rw [spell_len]; omega)
theorem c_norm2 (h0 : 0 ≤ x) (h1 : x < 32) (hn : n < 10) : ConS w mean mg mb 151 2 40 (fun _ => True) [.str (spellS x ++ (tailAt n).1) t] (nameAt x n) := by
  obtain ⟨k, rfl⟩ := Int.eq_ofNat_of_zero_le h0
  rw [← sp_norm2 k (by omega) n hn]
  exact c_normal_name w mean mg mb _ t (by have := spell_len (k : Int); have := tail_len n; rw [Str.length_append]; omega)
def wireAt (x : Int) (n : Nat) : Str × Int := if 0 ≤ (tailAt n).2 then (Str.ofString "", (tailAt n).2) else (nameAt x n, -1)
theorem wire_in (h : 0 ≤ (tailAt n).2) : (wireAt x n).1 = Str.ofString "" ∧ (wireAt x n).2 = (tailAt n).2 := by
  unfold wireAt; rw [if_pos h]; exact ⟨rfl, rfl⟩
theorem wire_out (h : ¬ 0 ≤ (tailAt n).2) : (wireAt x n).1 = (if isIn n = true then Str.ofString "INBOX" else spellS x) ++ (tailAt n).1 ∧ (wireAt x n).2 = -1 := by
  unfold wireAt; rw [if_neg h]; exact ⟨rfl, rfl⟩
theorem use_w255 {dp un : Nat} {gd : Option (List Code)} {cn : Str} {cs : Scope} {a : Addr} {ccd : Value} {cl : List (Str × Addr)} {A₀ : Around} {h₀ : Heap} {L : Addr} {m : Str → Option Value} {news : Led} {s : Shared} {Q E : Value → Shared → Prop} (h0 : 0 ≤ x) (h1 : x < 32) (hn : n < 10)
    (B : Below A₀ h₀ [] h₀) (F : Fr h₀ L s.heap m) (X : (hd.heap_39 w.params).In h₀) (N : News h₀ L s.heap news) (T : Top hd.view_39 (looseW hd.view_39 [Str.ofString "PostError"]) mean mg mb h₀) (hk : cs.kind = .function) (hd : dp + 12 < recursionLimit) (hu : un + 120 < cLine)
    (ret : ∀ D t' u h' tk', Fr h₀ L h' m → News h₀ L h' ((D, tupOf [.str (wireAt x n).1 t', .int (wireAt x n).2 u]) :: news) → (∀ q ∈ news, q.1 < D) → Q (.ref D) { s with heap := h', toks := tk' }) :
    wpAny (model PySem.Challenge.rw_pq0938_01.row.prog w) (ktrTop dp un gd cn cs L a ccd cl []) (call (.ref 255) [.str (spellS x ++ (tailAt n).1) t]) Q E s := by
  obtain ⟨k, rfl⟩ := Int.eq_ofNat_of_zero_le h0
  have hw := sp_wire k (by omega) n hn
  refine c_from_wire w mean mg mb _ t (by have := spell_len (k : Int); have := tail_len n; rw [Str.length_append]; omega) (fun c hc => sp_ascii k (by omega) n hn c hc) dp un gd cn cs a ccd cl A₀ h₀ L m news s Q E B F X N T hk hd hu fun r tl h' tk' F' N' l' ⟨D, o, t', u, e1, e2, e3⟩ => ?_
  subst e1; subst e2; subst e3
  refine ret D t' u h' tk' F' ?_ (fun q hq => l' q hq _ (.head _))
  unfold wireAt
  rw [← hw]
  exact N'
end

end
-- L_C
section
open PySem.Heap PySem.Calls PyProof.V PySem.Spec
set_option maxHeartbeats 8000000
set_option maxHeartbeats 2000000
section
local macro_rules | `(tactic| walk_at "call ref") => `(tactic| (k_here; (with_reducible show wpAny _ _ (call (Value.ref 250) [Value.int _ _]) _ _ _); k_dflt (refine' useS (c_law_spelled _ _ _ _ _ _ ?hx ?hy) ?k1 ?k2 ?k3 ?k4 ?k5 ?kK ?kd ?ku ?kp ?_); walk_at "mine ctx"; (case kp => trivial); (case hx => assumption); (case hy => assumption); intro t9 h9 tk9 F9 N9; (try dsimp only); (try k_fold)))
local macro_rules | `(tactic| walk_at "call ref") => `(tactic| (k_here; (with_reducible show wpAny _ _ (call (Value.ref 151) [Value.str (spellS _) _]) _ _ _); k_dflt (refine' useS (c_norm1 ?hx ?hy) ?k1 ?k2 ?k3 ?k4 ?k5 ?kK ?kd ?ku ?kp ?_); walk_at "mine ctx"; (case kp => trivial); (case hx => assumption); (case hy => assumption); intro t9 h9 tk9 F9 N9; (try dsimp only); (try k_fold)))
local macro_rules | `(tactic| walk_at "call ref") => `(tactic| (k_here; (with_reducible show wpAny _ _ (call (Value.ref 151) [Value.str (HAppend.hAppend (spellS _) (tailAt _).fst) _]) _ _ _); k_dflt (refine' useS (c_norm2 ?hx ?hy ?hn) ?k1 ?k2 ?k3 ?k4 ?k5 ?kK ?kd ?ku ?kp ?_); walk_at "mine ctx"; (case kp => trivial); (case hx => assumption); (case hy => assumption); (case hn => assumption); intro t9 h9 tk9 F9 N9; (try dsimp only); (try k_fold)))
local macro_rules | `(tactic| walk_at "exec For Name Call cons cons") => `(tactic| (k_here; (rename Fr _ _ _ _ => lF'); (with_unfolding_all refine' For_invVF lF' ?k1 ?k2 ?_; (case k1 => exact rfl); (case k2 => exact rfl); k_whole)))
local macro_rules | `(tactic| walk_at "binaryOp Add str str") => `(tactic| (k_here; (with_reducible show wpAny _ _ (binaryOp Operator.Add (Value.str _ _) (Value.str _ _)) _ _ _); (refine' KXadd.add (K := 5) (L := 6) ?a ?b ?c ?_; (case a => exact Nat.le_of_eq (by with_reducible assumption)); (case b => with_reducible assumption); (case c => decide)); intro _ _ _))
local macro_rules | `(tactic| walk_at "compareOp NotEq str str") => `(tactic| (k_here; k_dflt (refine ne_same (by exact rfl) ?_); k_whole))
local macro_rules | `(tactic| walk_at "compareOp NotEq ref ref") => `(tactic| (k_here; refine hold ?_))
local macro_rules | `(tactic| walk_at "eval IfExp") => `(tactic| (k_here; (with_reducible show wpAny _ _ (eval (Expr.IfExp (Expr.Name _ _) _ _ _) _) _ _ _); refine hold ?_))
local macro_rules | `(tactic| walk_at "call ref") => `(tactic| (k_here; (with_reducible show wpAny _ _ (call (Value.ref 255) _) _ _ _); k_dflt (refine' use_w255 ?h0 ?h1 ?hn ?k1 ?k2 ?k3 ?k4 ?k5 ?kK ?kd ?ku ?_; (case h0 => assumption); (case h1 => assumption); (case hn => assumption); (case k1 => k_asm); (case k2 => k_asm); (case k3 => k_asm); (case k4 => k_asm); (case k5 => k_asm); (case kK => exact rfl); (case kd => ktr_room); (case ku => ktr_units); intro D9 t9 u9 h9 tk9 F9 N9 l9; (try k_lt l9); (try dsimp only); (try k_fold))))
theorem law_C (H10 : Law10) : Law9 := by
  unfold Law9
  intro w mean mg mb h₀ a cd L m s Q E K0
  k_fill
  intro X T hQ hE n full cut t1 t2 t5 t6 D2 ys ns news hn hfl hc0 hc1 hS hnl hns hm2 F N
  refine law_lit (b' := _ :: _) (sc := ⟨_, _, _, _, _⟩) rfl rfl ?_
  k_steps
  k_steps
  unfold Hold
  rename_i h2 tk2 r1 u1 v1 R1 F1 N1 K1
  refine for_range (σ := Unit) (n := 32) (fun _ => news) (fun _ => [(Str.ofString "tail", .str (tailAt n).1 t1), (Str.ofString "place", .int (tailAt n).2 t2), (Str.ofString "names", .ref D2), (Str.ofString "full", .str full t5), (Str.ofString "cut", .int cut t6), (Str.ofString "is_inbox", .bool (isIn n))])
    (fun i c => True) () (by rfl) (by rfl) R1 (by decide) (by rfl) F1 N1 (by kst_all) trivial ?_ ?_
  · rintro i ti ⟨⟩ u I oI h tk hi _ hlt hne F2 N2
    have hi2 : (0 : Int) + (i : Int) < 32 := by omega
    have hi3 : (0 : Int) ≤ 0 + (i : Int) := by omega
    generalize (0 : Int) + (i : Int) = x at hi2 hi3 F2
    have F3 : Fr h₀ L h (fun y => if y = Str.ofString "each" then some (.int x ti) else if y = Str.ofString "tail" then some (.str (tailAt n).1 t1) else if y = Str.ofString "place" then some (.int (tailAt n).2 t2) else if y = Str.ofString "names" then some (.ref D2) else if y = Str.ofString "full" then some (.str full t5) else if y = Str.ofString "cut" then some (.int cut t6) else if y = Str.ofString "is_inbox" then some (.bool (isIn n)) else u y) := F2
    clear F2
    have htl := tail_len n
    have hsp := spell_len x
    have hy : (if isIn n = true then Str.ofString "INBOX" else spellS x).length = 5 := by
      split
      · decide +kernel
      · exact hsp
    k_steps
    unfold Hold
    refine join_str (if isIn n = true then Str.ofString "INBOX" else spellS x) ?_ ?_
    · with_reducible refine IfExp_ ?_
      k_steps
      · exact ⟨_, _, by rw [if_pos (by assumption)], rfl⟩
      · exact ⟨_, _, by rw [if_neg (ne_true_of_eq_false (by assumption))], rfl⟩
    · intro u8 tk8
      k_steps
      · unfold Hold
        rename News _ _ _ _ => N9
        k_dflt (refine tups_ne N9 (.tail _ (.head _)) (.head _) (wire_in (by with_reducible assumption)).1 (wire_in (by with_reducible assumption)).2 (by first | ktr_units | decide) ?_)
        k_steps
        exact ForNext.intro () (by assumption) N9 (fun _ h => .tail _ (.tail _ h)) hne (by kst_all) trivial
      · unfold Hold
        rename News _ _ _ _ => N9
        k_dflt (refine tups_ne N9 (.tail _ (.head _)) (.head _) (wire_out (by with_reducible assumption)).1 (wire_out (by with_reducible assumption)).2 (by first | ktr_units | decide) ?_)
        k_steps
        exact ForNext.intro () (by assumption) N9 (fun _ h => .tail _ (.tail _ h)) hne (by kst_all) trivial
  · rintro ⟨⟩ u h tk _ F2 N2
    unfold Law10 at H10
    exact H10 w mean mg mb h₀ a cd L _ _ Q E K0 X T (fun h' tk' m' nl F' N' => hQ h' tk' m' nl F' N') hE full cut t5 t6 D2 ys ns news hfl hc0 hc1 hS hnl hns hm2 (kst_of F2 (by kst_all)) N2
end

end
-- Top
section
open PySem.Heap PySem.Calls PyProof.V PySem.Spec
set_option maxHeartbeats 8000000
set_option maxHeartbeats 2000000
theorem top_holds : PySem.Challenge.rw_pq0938_01.Holds := by
  w_on
  refine holds_law said fun said' => ?_
  refine holds_open (q := hd.view_39) (loose := [Str.ofString "PostError"]) (Xt := fun s => xlAt hd.view_39 [] s && recOk (OpenRow.toRowW PySem.Challenge.rw_pq0938_01.row).records s) (XP := XL hd.view_39 []) (Yf := Hook.obs hook) (Ya := Hook.val hook) (YP := Hook.says hook) (N := 3680) hl (Hook.of hook) (Hook.keeps hook) (fun s e => xl_of s (Bool.and_eq_true_iff.mp e).1) XL.keeps (by rfl) (by rfl) (by rfl) (fun s e => recFacts_of (Bool.and_eq_true_iff.mp e).2) (by rfl) (by first | assumption | decide +kernel) (by decide +kernel) ⟨rfl, rfl, rfl, rfl, rfl, by decide +kernel⟩ ?hw ?hc
  case hw => w_witness2
  k_fill
  intro w s₀ s₁ mg mb G Y fa o pm cd doc dV kV ho hd hcd hD hmg hg args vals as hpre hlay hrd hwl hlo
  have KX := kIn_of Y
  have X := (Ground.X G).1
  have V := (Ground.X G).2
  refine Ground.open G ?_
  intro T B D TE TW
  try (refine guard_noD D (by decide +kernel) ?_; clear D)
  obtain ⟨_, _, M⟩ := bmod_of_top T
  have TA := at_of_top T
  try (obtain ⟨_, _, he, B0⟩ := based_of_top T rfl hmg ho hd; have he' : cd = _ := he; subst he'; clear he)
  clear hmg
  wrow_args hpre hlay hrd hwl hlo
  first | refine callC_kw (enter_call ?_) | refine enter_call ?_ | refine callC_kw (enter_callW ?_) | refine enter_callW ?_ | w_how
  w_top on
  try refine codeAny_mono ?_ (fun _ _ g => GoodW.toG g)
  have K0 := below_caller (Top.heap T)
  w_call any ho hd hcd hD T F
  clear hd TA
  k_drop
  all_goals try k_fold
  rename Shared => s₁
  rename Fr _ _ _ _ => F
  rename News _ _ _ _ => N0
  rename IntsAre _ _ => hI
  rename Top _ _ _ _ _ _ => T
  rename Below _ _ _ _ => K0
  rename Frag.In _ _ => KX
  rename (Obj.data _ = Data.cell _) => hoc
  rename_i qk ek
  have hq : ∀ (h' : Heap) (tk' : Nat) (m' : Str → Option Value) (nl : Led), Fr s₁.heap s₁.heap.objs.size h' m' → News s₁.heap s₁.heap.objs.size h' nl → qk (.ret (.bool true)) { s₁ with heap := h', toks := tk' } := by
    intro h' tk' m' nl F' N'
    dsimp only [qk]
    k_steps
  refine' law_A (law_N (law_B (law_C2 (law_C (law_D plain_law))))) _ _ _ _ _ _ _ _ _ _ _ _ K0 KX T hq ?hE _ _ _ hI ?hlen ?hl _ ?hoc (kst_of F ?hk) N0
  case hE => passes_own
  case hlen => omega
  case hl => assumption
  case hoc => exact hoc.trans rfl
  case hk => kst_all

end
end Mine
theorem PySem.Challenge.cw_pq0938_01_holds : PySem.Challenge.rw_pq0938_01.Holds :=
  Mine.top_holds
