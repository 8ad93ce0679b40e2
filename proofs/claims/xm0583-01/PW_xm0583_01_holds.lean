import PyProof.Rows.All
import Wide.All
import OpenK.AllK
import Wide.FinOn
import PySem.Challenge.RW_xm0583_01
open PySem PySem.W PyProof.Rows PySem.Calls
set_option Elab.async false
set_option maxHeartbeats 4000000
set_option maxRecDepth 100000
set_option rowWalk.seconds 0
namespace Mine

/-- the i-th statement of the text -/
noncomputable def nthSt : List Stmt → Nat → Option Stmt
  | [], _ => none
  | s :: _, 0 => some s
  | _ :: r, n + 1 => nthSt r n
noncomputable def stAt (i : Nat) : Option Stmt := nthSt PySem.Challenge.pw_xm0583_01.main.body i
/-- a class's first def -/
noncomputable def methAt : Option Stmt → Option Stmt
  | some (.ClassDef _ _ _ body _ _ _ _ _ _ _) => body.head?
  | _ => none
/-- a def as it stands on the heap -/
noncomputable def fnObj (s : Option Stmt) (qual : Str) (dV pm : Value) (c : Addr) : Obj := match s with
  | some (.FunctionDef name params body _ _ _ scope _ _ _) => ⟨.type "function", none, .func ⟨name, qual, params, .stmts body, scope, 3, [], dV, .none, .none, pm, none, .ref c, .none, 0⟩, #[]⟩
  | _ => ⟨.none, none, .plain, #[]⟩
/-- the written part of the heap behind the top -/
noncomputable def K : Params → Frag := fun P =>
  (nat_lit 2, Obj.mk Value.none none (Data.dict #[]) #[]) ::
  (nat_lit 3, Obj.mk (Value.type "dict") none (Data.dict (List.toArray (DictEntry.mk (PyData.keyHash P (Str.ofString "__name__")) (Value.str (Str.ofString "__name__") 165) (Value.str (Str.ofString "law_xm0583_01") 334) :: DictEntry.mk (PyData.keyHash P (Str.ofString "__doc__")) (Value.str (Str.ofString "__doc__") 166) Value.none :: DictEntry.mk (PyData.keyHash P (Str.ofString "__package__")) (Value.str (Str.ofString "__package__") 167) Value.none :: DictEntry.mk (PyData.keyHash P (Str.ofString "__loader__")) (Value.str (Str.ofString "__loader__") 168) (Value.builtin "__main__.__loader__#opaque") :: DictEntry.mk (PyData.keyHash P (Str.ofString "__spec__")) (Value.str (Str.ofString "__spec__") 169) Value.none :: DictEntry.mk (PyData.keyHash P (Str.ofString "__annotations__")) (Value.str (Str.ofString "__annotations__") 170) (Value.ref 6) :: DictEntry.mk (PyData.keyHash P (Str.ofString "__builtins__")) (Value.str (Str.ofString "__builtins__") 171) (Value.ref 4) :: DictEntry.mk (PyData.keyHash P (Str.ofString "__file__")) (Value.str (Str.ofString "__file__") 173) (Value.str (Str.ofString "/claim/cut.py") 172) :: DictEntry.mk (PyData.keyHash P (Str.ofString "__cached__")) (Value.str (Str.ofString "__cached__") 174) Value.none :: DictEntry.mk (PyData.keyHash P (Str.ofString "_wall")) (Value.str (Str.ofString "_wall") 193) (Value.ref 21) :: DictEntry.mk (PyData.keyHash P (Str.ofString "Body")) (Value.str (Str.ofString "Body") 281) (Value.ref 82) :: DictEntry.mk (PyData.keyHash P (Str.ofString "operands_of")) (Value.str (Str.ofString "operands_of") 289) (Value.ref 93) :: DictEntry.mk (PyData.keyHash P (Str.ofString "place_reads")) (Value.str (Str.ofString "place_reads") 297) (Value.ref 98) :: DictEntry.mk (PyData.keyHash P (Str.ofString "whole_reads")) (Value.str (Str.ofString "whole_reads") 303) (Value.ref 103) :: DictEntry.mk (PyData.keyHash P (Str.ofString "operand_reads")) (Value.str (Str.ofString "operand_reads") 312) (Value.ref 110) :: DictEntry.mk (PyData.keyHash P (Str.ofString "rvalue_reads")) (Value.str (Str.ofString "rvalue_reads") 319) (Value.ref 117) :: DictEntry.mk (PyData.keyHash P (Str.ofString "terminator_reads")) (Value.str (Str.ofString "terminator_reads") 327) (Value.ref 124) :: DictEntry.mk (PyData.keyHash P (Str.ofString "named_locals")) (Value.str (Str.ofString "named_locals") 333) (Value.ref 129) :: DictEntry.mk (PyData.keyHash P (Str.ofString "_law_pool")) (Value.str (Str.ofString "_law_pool") 344) (Value.ref 136) :: DictEntry.mk (PyData.keyHash P (Str.ofString "_law_take")) (Value.str (Str.ofString "_law_take") 353) (Value.ref 143) :: DictEntry.mk (PyData.keyHash P (Str.ofString "_law_one")) (Value.str (Str.ofString "_law_one") 361) (Value.ref 150) :: DictEntry.mk (PyData.keyHash P (Str.ofString "_law_place")) (Value.str (Str.ofString "_law_place") 375) (Value.ref 157) :: DictEntry.mk (PyData.keyHash P (Str.ofString "_law_set")) (Value.str (Str.ofString "_law_set") 382) (Value.ref 164) :: DictEntry.mk (PyData.keyHash P (Str.ofString "_law_operand")) (Value.str (Str.ofString "_law_operand") 392) (Value.ref 171) :: DictEntry.mk (PyData.keyHash P (Str.ofString "_law_operands")) (Value.str (Str.ofString "_law_operands") 398) (Value.ref 176) :: DictEntry.mk (PyData.keyHash P (Str.ofString "_law_rvalue")) (Value.str (Str.ofString "_law_rvalue") 416) (Value.ref 183) :: DictEntry.mk (PyData.keyHash P (Str.ofString "_law_ends")) (Value.str (Str.ofString "_law_ends") 429) (Value.ref 190) :: DictEntry.mk (PyData.keyHash P (Str.ofString "_law_statement")) (Value.str (Str.ofString "_law_statement") 442) (Value.ref 197) :: DictEntry.mk (PyData.keyHash P (Str.ofString "_law_body_right")) (Value.str (Str.ofString "_law_body_right") 448) (Value.ref 202) :: DictEntry.mk (PyData.keyHash P (Str.ofString "law")) (Value.str (Str.ofString "law") 464) (Value.ref 209) :: [])) 30) #[]) ::
  (nat_lit 29, Obj.mk (Value.type "tuple") none (Data.seq #[Value.none, Value.none]) #[]) ::
  (nat_lit 35, Obj.mk (Value.type "code") none (Data.fields (List.toArray (Value.str (Str.ofString "__init__") 208 :: Value.str (Str.ofString "Body.__init__") 209 :: Value.str (Str.ofString "/claim/cut.py") 210 :: Value.int 7 0 :: Value.int 6 0 :: Value.int 0 0 :: Value.int 0 0 :: Value.int 3 0 :: Value.ref 30 :: Value.bool true :: Value.int 181 0 :: Value.ref 31 :: Value.none :: Value.ref 32 :: Value.ref 33 :: Value.ref 34 :: Value.int 217 0 :: Value.int 7 0 :: Value.str (Str.ofString "/claim/cut.py") 218 :: []))) #[]) ::
  (nat_lit 36, fnObj (methAt (stAt 2)) (Str.ofString "Body.__init__") (Value.ref 29) (.str (Str.ofString "lendcore.mir") 194) 35) ::
  (nat_lit 81, Obj.mk (Value.type "dict") none (Data.dict (List.toArray (DictEntry.mk (PyData.keyHash P (Str.ofString "__module__")) (Value.str (Str.ofString "__module__") 203) (Value.str (Str.ofString "lendcore.mir") 194) :: DictEntry.mk (PyData.keyHash P (Str.ofString "__firstlineno__")) (Value.str (Str.ofString "__firstlineno__") 207) (Value.int 5 206) :: DictEntry.mk (PyData.keyHash P (Str.ofString "__init__")) (Value.str (Str.ofString "__init__") 219) (Value.ref 36) :: DictEntry.mk (PyData.keyHash P (Str.ofString "type_of")) (Value.str (Str.ofString "type_of") 227) (Value.ref 43) :: DictEntry.mk (PyData.keyHash P (Str.ofString "args")) (Value.str (Str.ofString "args") 234) (Value.ref 50) :: DictEntry.mk (PyData.keyHash P (Str.ofString "statements")) (Value.str (Str.ofString "statements") 242) (Value.ref 57) :: DictEntry.mk (PyData.keyHash P (Str.ofString "terminator")) (Value.str (Str.ofString "terminator") 250) (Value.ref 64) :: DictEntry.mk (PyData.keyHash P (Str.ofString "spot")) (Value.str (Str.ofString "spot") 258) (Value.ref 71) :: DictEntry.mk (PyData.keyHash P (Str.ofString "new_local")) (Value.str (Str.ofString "new_local") 268) (Value.ref 79) :: DictEntry.mk (PyData.keyHash P (Str.ofString "__static_attributes__")) (Value.str (Str.ofString "__static_attributes__") 274) (Value.ref 80) :: DictEntry.mk (PyData.keyHash P (Str.ofString "__dict__")) (Value.str (Str.ofString "__dict__") 276) (Value.ref 83) :: DictEntry.mk (PyData.keyHash P (Str.ofString "__weakref__")) (Value.str (Str.ofString "__weakref__") 278) (Value.ref 84) :: DictEntry.mk (PyData.keyHash P (Str.ofString "__doc__")) (Value.str (Str.ofString "__doc__") 279) Value.none :: [])) 4) #[]) ::
  (nat_lit 82, Obj.mk (Value.type "type") none (Data.cls (ClassData.mk (Str.ofString "Body") [Value.type "object"] [Value.ref 82, Value.type "object"] 81 (Str.ofString "Body") true [] [] false none false)) #[none, none, some (Value.str (Str.ofString "Body") 196), some (Value.str (Str.ofString "Body") 204), some (Value.builtin "object.__new__"), some (Value.bool true)]) ::
  (nat_lit 83, Obj.mk (Value.type "getset_descriptor") none (Data.fields #[Value.str (Str.ofString "__dict__") 275, Value.ref 82, Value.builtin "function.__dict__", Value.builtin "function.__dict__#set"]) #[]) ::
  (nat_lit 84, Obj.mk (Value.type "getset_descriptor") none (Data.fields #[Value.str (Str.ofString "__weakref__") 277, Value.ref 82, Value.builtin "ExceptionGroup.__weakref__", Value.none]) #[]) ::
  (nat_lit 92, Obj.mk (Value.type "code") none (Data.fields (List.toArray (Value.str (Str.ofString "operands_of") 282 :: Value.str (Str.ofString "operands_of") 283 :: Value.str (Str.ofString "/claim/cut.py") 284 :: Value.int 31 0 :: Value.int 1 0 :: Value.int 0 0 :: Value.int 0 0 :: Value.int 3 0 :: Value.ref 87 :: Value.bool true :: Value.int 181 0 :: Value.ref 88 :: Value.none :: Value.ref 89 :: Value.ref 90 :: Value.ref 91 :: Value.int 287 0 :: Value.int 31 0 :: Value.str (Str.ofString "/claim/cut.py") 288 :: []))) #[]) ::
  (nat_lit 93, fnObj (stAt 3) (Str.ofString "operands_of") Value.none (.str (Str.ofString "lendcore.mir") 194) 92) ::
  (nat_lit 97, Obj.mk (Value.type "code") none (Data.fields (List.toArray (Value.str (Str.ofString "place_reads") 292 :: Value.str (Str.ofString "place_reads") 293 :: Value.str (Str.ofString "/claim/cut.py") 294 :: Value.int 45 0 :: Value.int 1 0 :: Value.int 0 0 :: Value.int 0 0 :: Value.int 3 0 :: Value.ref 94 :: Value.bool true :: Value.int 181 0 :: Value.ref 95 :: Value.none :: Value.none :: Value.none :: Value.ref 96 :: Value.int 295 0 :: Value.int 45 0 :: Value.str (Str.ofString "/claim/cut.py") 296 :: []))) #[]) ::
  (nat_lit 98, fnObj (stAt 5) (Str.ofString "place_reads") Value.none (.str (Str.ofString "lendcore.dead") 290) 97) ::
  (nat_lit 102, Obj.mk (Value.type "code") none (Data.fields (List.toArray (Value.str (Str.ofString "whole_reads") 298 :: Value.str (Str.ofString "whole_reads") 299 :: Value.str (Str.ofString "/claim/cut.py") 300 :: Value.int 48 0 :: Value.int 1 0 :: Value.int 0 0 :: Value.int 0 0 :: Value.int 3 0 :: Value.ref 99 :: Value.bool true :: Value.int 181 0 :: Value.ref 100 :: Value.none :: Value.none :: Value.none :: Value.ref 101 :: Value.int 301 0 :: Value.int 48 0 :: Value.str (Str.ofString "/claim/cut.py") 302 :: []))) #[]) ::
  (nat_lit 103, fnObj (stAt 6) (Str.ofString "whole_reads") Value.none (.str (Str.ofString "lendcore.dead") 290) 102) ::
  (nat_lit 109, Obj.mk (Value.type "code") none (Data.fields (List.toArray (Value.str (Str.ofString "operand_reads") 304 :: Value.str (Str.ofString "operand_reads") 305 :: Value.str (Str.ofString "/claim/cut.py") 306 :: Value.int 50 0 :: Value.int 1 0 :: Value.int 0 0 :: Value.int 0 0 :: Value.int 3 0 :: Value.ref 104 :: Value.bool true :: Value.int 181 0 :: Value.ref 105 :: Value.none :: Value.ref 106 :: Value.ref 107 :: Value.ref 108 :: Value.int 310 0 :: Value.int 50 0 :: Value.str (Str.ofString "/claim/cut.py") 311 :: []))) #[]) ::
  (nat_lit 110, fnObj (stAt 7) (Str.ofString "operand_reads") Value.none (.str (Str.ofString "lendcore.dead") 290) 109) ::
  (nat_lit 116, Obj.mk (Value.type "code") none (Data.fields (List.toArray (Value.str (Str.ofString "rvalue_reads") 313 :: Value.str (Str.ofString "rvalue_reads") 314 :: Value.str (Str.ofString "/claim/cut.py") 315 :: Value.int 56 0 :: Value.int 1 0 :: Value.int 0 0 :: Value.int 0 0 :: Value.int 3 0 :: Value.ref 111 :: Value.bool true :: Value.int 181 0 :: Value.ref 112 :: Value.none :: Value.ref 113 :: Value.ref 114 :: Value.ref 115 :: Value.int 317 0 :: Value.int 56 0 :: Value.str (Str.ofString "/claim/cut.py") 318 :: []))) #[]) ::
  (nat_lit 117, fnObj (stAt 8) (Str.ofString "rvalue_reads") Value.none (.str (Str.ofString "lendcore.dead") 290) 116) ::
  (nat_lit 123, Obj.mk (Value.type "code") none (Data.fields (List.toArray (Value.str (Str.ofString "terminator_reads") 320 :: Value.str (Str.ofString "terminator_reads") 321 :: Value.str (Str.ofString "/claim/cut.py") 322 :: Value.int 62 0 :: Value.int 1 0 :: Value.int 0 0 :: Value.int 0 0 :: Value.int 3 0 :: Value.ref 118 :: Value.bool true :: Value.int 181 0 :: Value.ref 119 :: Value.none :: Value.ref 120 :: Value.ref 121 :: Value.ref 122 :: Value.int 325 0 :: Value.int 62 0 :: Value.str (Str.ofString "/claim/cut.py") 326 :: []))) #[]) ::
  (nat_lit 124, fnObj (stAt 9) (Str.ofString "terminator_reads") Value.none (.str (Str.ofString "lendcore.dead") 290) 123) ::
  (nat_lit 128, Obj.mk (Value.type "code") none (Data.fields (List.toArray (Value.str (Str.ofString "named_locals") 328 :: Value.str (Str.ofString "named_locals") 329 :: Value.str (Str.ofString "/claim/cut.py") 330 :: Value.int 71 0 :: Value.int 1 0 :: Value.int 0 0 :: Value.int 0 0 :: Value.int 3 0 :: Value.ref 125 :: Value.bool true :: Value.int 181 0 :: Value.ref 126 :: Value.none :: Value.none :: Value.none :: Value.ref 127 :: Value.int 331 0 :: Value.int 71 0 :: Value.str (Str.ofString "/claim/cut.py") 332 :: []))) #[]) ::
  (nat_lit 129, fnObj (stAt 10) (Str.ofString "named_locals") Value.none (.str (Str.ofString "lendcore.dead") 290) 128) ::
  (nat_lit 135, Obj.mk (Value.type "code") none (Data.fields (List.toArray (Value.str (Str.ofString "_law_pool") 336 :: Value.str (Str.ofString "_law_pool") 337 :: Value.str (Str.ofString "/claim/cut.py") 338 :: Value.int 86 0 :: Value.int 1 0 :: Value.int 0 0 :: Value.int 0 0 :: Value.int 3 0 :: Value.ref 130 :: Value.bool true :: Value.int 181 0 :: Value.ref 131 :: Value.none :: Value.ref 132 :: Value.ref 133 :: Value.ref 134 :: Value.int 342 0 :: Value.int 86 0 :: Value.str (Str.ofString "/claim/cut.py") 343 :: []))) #[]) ::
  (nat_lit 136, fnObj (stAt 12) (Str.ofString "_law_pool") Value.none (.str (Str.ofString "law_xm0583_01") 334) 135) ::
  (nat_lit 142, Obj.mk (Value.type "code") none (Data.fields (List.toArray (Value.str (Str.ofString "_law_take") 345 :: Value.str (Str.ofString "_law_take") 346 :: Value.str (Str.ofString "/claim/cut.py") 347 :: Value.int 90 0 :: Value.int 2 0 :: Value.int 0 0 :: Value.int 0 0 :: Value.int 3 0 :: Value.ref 137 :: Value.bool true :: Value.int 181 0 :: Value.ref 138 :: Value.none :: Value.ref 139 :: Value.ref 140 :: Value.ref 141 :: Value.int 351 0 :: Value.int 90 0 :: Value.str (Str.ofString "/claim/cut.py") 352 :: []))) #[]) ::
  (nat_lit 143, fnObj (stAt 13) (Str.ofString "_law_take") Value.none (.str (Str.ofString "law_xm0583_01") 334) 142) ::
  (nat_lit 149, Obj.mk (Value.type "code") none (Data.fields (List.toArray (Value.str (Str.ofString "_law_one") 354 :: Value.str (Str.ofString "_law_one") 355 :: Value.str (Str.ofString "/claim/cut.py") 356 :: Value.int 97 0 :: Value.int 2 0 :: Value.int 0 0 :: Value.int 0 0 :: Value.int 3 0 :: Value.ref 144 :: Value.bool true :: Value.int 181 0 :: Value.ref 145 :: Value.none :: Value.ref 146 :: Value.ref 147 :: Value.ref 148 :: Value.int 359 0 :: Value.int 97 0 :: Value.str (Str.ofString "/claim/cut.py") 360 :: []))) #[]) ::
  (nat_lit 150, fnObj (stAt 14) (Str.ofString "_law_one") Value.none (.str (Str.ofString "law_xm0583_01") 334) 149) ::
  (nat_lit 156, Obj.mk (Value.type "code") none (Data.fields (List.toArray (Value.str (Str.ofString "_law_place") 362 :: Value.str (Str.ofString "_law_place") 363 :: Value.str (Str.ofString "/claim/cut.py") 364 :: Value.int 99 0 :: Value.int 2 0 :: Value.int 0 0 :: Value.int 0 0 :: Value.int 3 0 :: Value.ref 151 :: Value.bool true :: Value.int 181 0 :: Value.ref 152 :: Value.none :: Value.ref 153 :: Value.ref 154 :: Value.ref 155 :: Value.int 373 0 :: Value.int 99 0 :: Value.str (Str.ofString "/claim/cut.py") 374 :: []))) #[]) ::
  (nat_lit 157, fnObj (stAt 15) (Str.ofString "_law_place") Value.none (.str (Str.ofString "law_xm0583_01") 334) 156) ::
  (nat_lit 163, Obj.mk (Value.type "code") none (Data.fields (List.toArray (Value.str (Str.ofString "_law_set") 376 :: Value.str (Str.ofString "_law_set") 377 :: Value.str (Str.ofString "/claim/cut.py") 378 :: Value.int 107 0 :: Value.int 1 0 :: Value.int 0 0 :: Value.int 0 0 :: Value.int 3 0 :: Value.ref 158 :: Value.bool true :: Value.int 181 0 :: Value.ref 159 :: Value.none :: Value.ref 160 :: Value.ref 161 :: Value.ref 162 :: Value.int 380 0 :: Value.int 107 0 :: Value.str (Str.ofString "/claim/cut.py") 381 :: []))) #[]) ::
  (nat_lit 164, fnObj (stAt 16) (Str.ofString "_law_set") Value.none (.str (Str.ofString "law_xm0583_01") 334) 163) ::
  (nat_lit 170, Obj.mk (Value.type "code") none (Data.fields (List.toArray (Value.str (Str.ofString "_law_operand") 383 :: Value.str (Str.ofString "_law_operand") 384 :: Value.str (Str.ofString "/claim/cut.py") 385 :: Value.int 109 0 :: Value.int 1 0 :: Value.int 0 0 :: Value.int 0 0 :: Value.int 3 0 :: Value.ref 165 :: Value.bool true :: Value.int 181 0 :: Value.ref 166 :: Value.none :: Value.ref 167 :: Value.ref 168 :: Value.ref 169 :: Value.int 390 0 :: Value.int 109 0 :: Value.str (Str.ofString "/claim/cut.py") 391 :: []))) #[]) ::
  (nat_lit 171, fnObj (stAt 17) (Str.ofString "_law_operand") Value.none (.str (Str.ofString "law_xm0583_01") 334) 170) ::
  (nat_lit 175, Obj.mk (Value.type "code") none (Data.fields (List.toArray (Value.str (Str.ofString "_law_operands") 393 :: Value.str (Str.ofString "_law_operands") 394 :: Value.str (Str.ofString "/claim/cut.py") 395 :: Value.int 112 0 :: Value.int 2 0 :: Value.int 0 0 :: Value.int 0 0 :: Value.int 3 0 :: Value.ref 172 :: Value.bool true :: Value.int 181 0 :: Value.ref 173 :: Value.none :: Value.none :: Value.none :: Value.ref 174 :: Value.int 396 0 :: Value.int 112 0 :: Value.str (Str.ofString "/claim/cut.py") 397 :: []))) #[]) ::
  (nat_lit 176, fnObj (stAt 18) (Str.ofString "_law_operands") Value.none (.str (Str.ofString "law_xm0583_01") 334) 175) ::
  (nat_lit 182, Obj.mk (Value.type "code") none (Data.fields (List.toArray (Value.str (Str.ofString "_law_rvalue") 399 :: Value.str (Str.ofString "_law_rvalue") 400 :: Value.str (Str.ofString "/claim/cut.py") 401 :: Value.int 117 0 :: Value.int 1 0 :: Value.int 0 0 :: Value.int 0 0 :: Value.int 3 0 :: Value.ref 177 :: Value.bool true :: Value.int 181 0 :: Value.ref 178 :: Value.none :: Value.ref 179 :: Value.ref 180 :: Value.ref 181 :: Value.int 414 0 :: Value.int 117 0 :: Value.str (Str.ofString "/claim/cut.py") 415 :: []))) #[]) ::
  (nat_lit 183, fnObj (stAt 19) (Str.ofString "_law_rvalue") Value.none (.str (Str.ofString "law_xm0583_01") 334) 182) ::
  (nat_lit 189, Obj.mk (Value.type "code") none (Data.fields (List.toArray (Value.str (Str.ofString "_law_ends") 417 :: Value.str (Str.ofString "_law_ends") 418 :: Value.str (Str.ofString "/claim/cut.py") 419 :: Value.int 130 0 :: Value.int 1 0 :: Value.int 0 0 :: Value.int 0 0 :: Value.int 3 0 :: Value.ref 184 :: Value.bool true :: Value.int 181 0 :: Value.ref 185 :: Value.none :: Value.ref 186 :: Value.ref 187 :: Value.ref 188 :: Value.int 427 0 :: Value.int 130 0 :: Value.str (Str.ofString "/claim/cut.py") 428 :: []))) #[]) ::
  (nat_lit 190, fnObj (stAt 20) (Str.ofString "_law_ends") Value.none (.str (Str.ofString "law_xm0583_01") 334) 189) ::
  (nat_lit 196, Obj.mk (Value.type "code") none (Data.fields (List.toArray (Value.str (Str.ofString "_law_statement") 430 :: Value.str (Str.ofString "_law_statement") 431 :: Value.str (Str.ofString "/claim/cut.py") 432 :: Value.int 135 0 :: Value.int 1 0 :: Value.int 0 0 :: Value.int 0 0 :: Value.int 3 0 :: Value.ref 191 :: Value.bool true :: Value.int 181 0 :: Value.ref 192 :: Value.none :: Value.ref 193 :: Value.ref 194 :: Value.ref 195 :: Value.int 440 0 :: Value.int 135 0 :: Value.str (Str.ofString "/claim/cut.py") 441 :: []))) #[]) ::
  (nat_lit 197, fnObj (stAt 21) (Str.ofString "_law_statement") Value.none (.str (Str.ofString "law_xm0583_01") 334) 196) ::
  (nat_lit 201, Obj.mk (Value.type "code") none (Data.fields (List.toArray (Value.str (Str.ofString "_law_body_right") 443 :: Value.str (Str.ofString "_law_body_right") 444 :: Value.str (Str.ofString "/claim/cut.py") 445 :: Value.int 144 0 :: Value.int 1 0 :: Value.int 0 0 :: Value.int 0 0 :: Value.int 3 0 :: Value.ref 198 :: Value.bool true :: Value.int 181 0 :: Value.ref 199 :: Value.none :: Value.none :: Value.none :: Value.ref 200 :: Value.int 446 0 :: Value.int 144 0 :: Value.str (Str.ofString "/claim/cut.py") 447 :: []))) #[]) ::
  (nat_lit 202, fnObj (stAt 22) (Str.ofString "_law_body_right") Value.none (.str (Str.ofString "law_xm0583_01") 334) 201) :: []
abbrev Kas : List Addr := [2, 3, 29, 35, 36, 81, 82, 83, 84, 92, 93, 97, 98, 102, 103, 109, 110, 116, 117, 123, 124, 128, 129, 135, 136, 142, 143, 149, 150, 156, 157, 163, 164, 170, 171, 175, 176, 182, 183, 189, 190, 196, 197, 201, 202]
noncomputable def isDef : Stmt → Bool
  | .FunctionDef .. => true
  | .ClassDef .. => true
  | _ => false
/-- the program with its defs and classes alone -/
noncomputable def view : Program := { PySem.Challenge.pw_xm0583_01 with main := { PySem.Challenge.pw_xm0583_01.main with body := PySem.Challenge.pw_xm0583_01.main.body.filter isDef } }
set_option maxRecDepth 100000 in
set_option maxHeartbeats 8000000 in
theorem said_ok : OpenLaw.wellSaid PySem.Challenge.rw_xm0583_01 = true := by kernel_rfl
set_option maxRecDepth 100000 in
set_option maxHeartbeats 8000000 in
/-- the top, run by the kernel at once: what it leaves -/
theorem top_ok : LeftO (PySem.Challenge.rw_xm0583_01.row).prog Mine.view [] (fun s => xlAt Mine.view [] s && recOk (RowW.records (OpenRow.toRowW PySem.Challenge.rw_xm0583_01.row)) s) (Hook.obs (kHook Mine.K Mine.Kas (fun _ => by kernel_rfl))) (Hook.val (kHook Mine.K Mine.Kas (fun _ => by kernel_rfl))) 2262 := by
  intro w
  kernel_rfl

section
/-- everything of h that is not owned stands in g -/
def Old (own : List (Addr × Obj)) (h g : Heap) : Prop := ∀ b o, (∀ q ∈ own, q.1 ≠ b) → h.get? b = some o → g.get? b = some o

theorem enter {prog : Program} {w : World} {K : Frag} {p : Program} {loose : List Str} {mean : ExcName → Option Value} {mg mb : Str → Option Value} {g₀ : Heap}
    {hd : Option Value} {dp un : Nat} {fr : Option (List Env)} {gd : Option (List Code)} {s : Shared} (own : List (Addr × Obj)) {f : Addr} {vals : List Value} {Q : Value → Shared → Prop} {E : Value → Shared → Prop}
    {name qual : Str} {params : Arguments} {body : List Stmt} {scope : Scope} {dV kV doc pm cdv ct oc : Value} {an od : Option Addr} {osl : Array (Option Value)} {binds : List (Str × Value)}
    (X : K.In g₀) (T : Top p loose mean mg mb g₀) (hk : g₀.StaysIn s.heap) (hown : ∀ q ∈ own, s.heap.get? q.1 = some q.2 ∧ g₀.get? q.1 = none)
    (ho : K.lookup f = some ⟨oc, od, .func (fnOf name qual params body scope dV kV doc pm an cdv ct), osl⟩) (hcd : codeIn K cdv qual = true) (hroom : dp < recursionLimit)
    (hbind : BindsTo s (fnOf name qual params body scope dV kV doc pm an cdv ct) ⟨vals, []⟩ binds) (hloc : ∀ y ∈ binds, scope.names.lookup y.1 = some .local)
    (h : ∀ g L' h₁ tk, Fr g L' h₁ (fun y => binds.reverse.lookup y) → News g L' h₁ own → K.In g → Top p loose mean mg mb g → Old own s.heap g → L' = s.heap.objs.size →
      wpAny (model prog w) ((Around.mk hd dp fr gd un).deeper (envOf qual scope L' f cdv)) (execs body (envOf qual scope L' f cdv))
        (fun fl s' => Q (match fl with | .ret v => v | _ => .none) s') (fun _ _ => False)
        { s with heap := h₁, toks := tk })
    (hco : scope.isCoroutine = false) (hgen : scope.isGenerator = false) (hkd : scope.kind = .function)
    (hcell : ∀ x ∈ scope.names, x.2 ≠ .cell) : wpAny (model prog w) (Around.mk hd dp fr gd un) (call (.ref f) vals) Q E s := by
  have K' : K.In s.heap := X.keeps hk
  refine wpAny_call (codeAny_call_def (fd := fnOf name qual params body scope dV kV doc pm an cdv ct) (body := body) (binds := binds) hroom (K' _ _ ho) rfl (T.nolimit.keeps hk) (codeRec_of K' hcd) rfl hbind hcell hloc (fun h₁ hns hk₁ => ?_) hco hgen hkd)
  have st : g₀.StaysIn (hideAll s.heap (own.map (·.1))) := fun b o e => hideAll_get _ (hk b o e) (fun q => by
    obtain ⟨p, hp, rfl⟩ := List.mem_map.mp q
    rw [(hown p hp).2] at e; cases e)
  refine wpAny_mono (h (hideAll s.heap (own.map (·.1))) s.heap.objs.size h₁ _ ⟨hns, fun b o e => hk₁ b o (of_hideAll _ e), Nat.le_of_eq (hideAll_size _ _)⟩
    (fun p hp => ⟨hk₁ _ _ (hown p hp).1, Nat.ne_of_lt (Heap.lt_size (hown p hp).1), hideAll_none _ (List.mem_map_of_mem hp)⟩) (Frag.In.keeps X fun b o => st b o) (T.keeps fun b o => st b o)
    (fun b o hb e => hideAll_get _ e (fun q => by
      obtain ⟨p, hp, rfl⟩ := List.mem_map.mp q
      exact hb p hp rfl)) rfl) (fun fl s' hq => hq) (fun _ _ x => x.elim)

/-- the walk stops here -/
def Stop (p : Prop) : Prop := p
theorem Stop.of {p : Prop} (h : Stop p) : p := h
theorem Stop.go {p : Prop} (h : p) : Stop p := h

/-- room for l more frames -/
def Room (dp un l : Nat) : Prop := dp + l ≤ 500 ∧ un + 20 * l ≤ 5000
theorem Room.depth {dp un l : Nat} (h : Room dp un (l + 1)) : dp < recursionLimit := by
  have : recursionLimit = 1000 := rfl
  unfold Room at h; omega
theorem Room.units {dp un l : Nat} (h : Room dp un l) : un + 100 < cLine := by
  have : cLine = 9900 := rfl
  unfold Room at h; omega
theorem Room.units3 {hd : Option Value} {fr : Option (List Env)} {gd : Option (List Code)} {env : Env} {dp un l : Nat} (h : Room dp un l) : ((Around.mk hd dp fr gd un).deeper env).units < cLine := by
  have := h.units
  show un + 3 < cLine
  omega
theorem Room.units64 {hd : Option Value} {fr : Option (List Env)} {gd : Option (List Code)} {env : Env} {dp un l : Nat} (h : Room dp un l) : ((Around.mk hd dp fr gd un).deeper env).units + 64 < cLine := by
  have := h.units
  show un + 3 + 64 < cLine
  omega
theorem Room.deep {dp un l l' k : Nat} (h : Room dp un l) (e : l' + 1 ≤ l) (hk : k ≤ 20 := by decide) : Room (dp + 1) (un + k) l' := by
  unfold Room at h ⊢; omega
theorem Room.less {dp un l l' k : Nat} (h : Room dp un l) (e : l' + 1 ≤ l) (hk : k ≤ 20 := by decide) : Room dp (un + k) l' := by
  unfold Room at h ⊢; omega

/-- the source: two ints -/
def SrcO (o : Obj) : Prop := ∃ x tx y ty n, o = listOf #[.int x tx, .int y ty] n ∧ 0 ≤ x ∧ 0 ≤ y ∧ y < 2147483647

theorem Old.ext {src : Addr} {o : Obj} {s g h' : Heap} {L : Addr} {m' : Str → Option Value} (H : Old [(src, o)] s g) (F : Fr g L h' m') : Heap.ExtBut src s h' :=
  fun b o' hb e => F.keep b o' (H b o' (fun q hq => by rw [List.mem_singleton.mp hq]; exact Ne.symm hb) e)

theorem Old.stays {s g h' : Heap} {L : Addr} {m' : Str → Option Value} (H : Old [] s g) (F : Fr g L h' m') : s.StaysIn h' :=
  fun b o e => F.keep b o (H b o (fun _ hq => nomatch hq) e)
theorem Old.fresh {s g h' : Heap} {L a : Addr} {o : Obj} {news : List (Addr × Obj)} (H : Old [] s g) (N : News g L h' news) (hm : (a, o) ∈ news) : s.get? a = none := by
  cases e : s.get? a with
  | none => rfl
  | some x => have := (N _ hm).2.2; rw [H a x (fun _ hq => nomatch hq) e] at this; cases this
theorem own_one {g₀ h : Heap} {src : Addr} {o : Obj} (a : h.get? src = some o) (b : g₀.get? src = none) : ∀ q ∈ [(src, o)], h.get? q.1 = some q.2 ∧ g₀.get? q.1 = none :=
  fun q hq => by rw [List.mem_singleton.mp hq]; exact ⟨a, b⟩

local macro_rules | `(tactic| walk_at "ENTER") => `(tactic| ((case ko => first | exact own_one (by assumption) (by assumption) | exact List.forall_mem_nil _); (case k6 => k_is); (case k7 => k_is); (case k8 => exact Room.depth (by assumption)); (case k9 => exact BindsTo.of_eq rfl); (case c5 => decide); (case kB => exact locs rfl); (case c2 => exact rfl); (case c3 => exact rfl); (case c4 => exact rfl); k_whole))

theorem mul_mod_ok (a b : Int) : IntMulOk (a.fmod 2147483647) b :=
  IntMulOk.of_left (intBits_le_64 (by have := fmod_lo a (n := 2147483647) (by decide); omega) (by have := fmod_hi a (n := 2147483647) (by decide); omega))
local macro_rules | `(tactic| walk_at "binaryOp Mult int int") => `(tactic| (k_here; simp only [List.getD_cons_zero, List.getD_cons_succ, Int.toNat_zero, Int.toNat_one]; refine mul_int ?_ (mul_mod_ok _ _)))
theorem take_ok {w : World} {mean : ExcName → Option Value} {mg mb : Str → Option Value} {g₀ : Heap} (X : (Mine.K w.params).In g₀) (T : Top Mine.view (looseW Mine.view []) mean mg mb g₀)
    {dp un : Nat} {fr : Option (List Env)} {gd : Option (List Code)} {s : Shared} {src : Addr} {o : Obj} {top : Int} {tt : Tok} {Q E : Value → Shared → Prop}
    (hr : Room dp un 1) (hk : g₀.StaysIn s.heap) (hs : s.heap.get? src = some o) (hs₀ : g₀.get? src = none) (hso : SrcO o) (h1 : 1 ≤ top) (h2 : top ≤ 64)
    (post : ∀ k t o' h' tk', 0 ≤ k → k < top → Heap.ExtBut src s.heap h' → h'.get? src = some o' → SrcO o' → Q (.int k t) { s with heap := h', toks := tk' }) :
    wpAny (model PySem.Challenge.rw_xm0583_01.row.prog w) (Around.mk none dp fr gd un) (call (.ref 143) [.ref src, .int top tt]) Q E s := by
  w_top off
  revert X
  k_fill
  intro X
  obtain ⟨x, tx, y, ty, n, rfl, hx, hy, hy2⟩ := hso
  k_dflt (refine' enter [(src, (listOf #[.int x tx, .int y ty] n : Obj))] X T hk ?ko ?k6 ?k7 ?k8 ?k9 ?kB ?_ ?c2 ?c3 ?c4 ?c5)
  walk_at "ENTER"
  clear X T
  intro g L h tk F N X T hold hL
  (try dsimp only)
  k_fold
  k_steps
  all_goals (try dsimp only)
  all_goals (simp only [List.getD_cons_zero, List.getD_cons_succ, Int.toNat_zero, Int.toNat_one] at *)
  · exact post _ _ _ _ _ (fmod_lo _ (by omega)) (fmod_hi _ (by omega)) (Old.ext hold (by assumption)) ((by assumption : News g L _ _) _ (List.Mem.head _)).1 ⟨_, _, _, _, _, rfl, Int.fdiv_nonneg hx (by omega), hy, hy2⟩
  · exact post _ _ _ _ _ (fmod_lo _ (by omega)) (fmod_hi _ (by omega)) (Old.ext hold (by assumption)) ((by assumption : News g L _ _) _ (List.Mem.head _)).1 ⟨_, _, _, _, _, rfl, hx, fmod_lo _ (by omega), fmod_hi _ (by omega)⟩
end

/-- data of the program: ints, texts, None, bools, tuples -/
inductive D where
  | int (n : Int)
  | str (x : Str)
  | none
  | bool (b : Bool)
  | tup (l : List D)
  | lst (l : List D)

abbrev tupO (vs : List Value) (n : Nat) : Obj := { cls := .type "tuple", data := .seq vs.toArray n }
abbrev lstO (vs : List Value) (n : Nat) : Obj := { cls := .type "list", data := .seq vs.toArray n }

mutual
inductive Is (φ : Addr → Obj → Prop) : Value → D → Prop where
  | int (n : Int) (t : Tok) : Is φ (.int n t) (.int n)
  | str (x : Str) (t : Tok) : Is φ (.str x t) (.str x)
  | none : Is φ .none .none
  | bool (b : Bool) : Is φ (.bool b) (.bool b)
  | tup {a : Addr} {vs : List Value} {n : Nat} {ds : List D} : φ a (tupO vs n) → IsAll φ vs ds → Is φ (.ref a) (.tup ds)
  | lst {a : Addr} {vs : List Value} {n : Nat} {ds : List D} : φ a (lstO vs n) → IsAll φ vs ds → Is φ (.ref a) (.lst ds)
inductive IsAll (φ : Addr → Obj → Prop) : List Value → List D → Prop where
  | nil : IsAll φ [] []
  | cons {v : Value} {d : D} {vs : List Value} {ds : List D} : Is φ v d → IsAll φ vs ds → IsAll φ (v :: vs) (d :: ds)
end

mutual
theorem Is.mono {φ ψ : Addr → Obj → Prop} (h : ∀ a o, φ a o → ψ a o) : ∀ {v d}, Is φ v d → Is ψ v d
  | _, _, .int n t => .int n t
  | _, _, .str x t => .str x t
  | _, _, .none => .none
  | _, _, .bool b => .bool b
  | _, _, .tup a b => .tup (h _ _ a) (IsAll.mono h b)
  | _, _, .lst a b => .lst (h _ _ a) (IsAll.mono h b)
theorem IsAll.mono {φ ψ : Addr → Obj → Prop} (h : ∀ a o, φ a o → ψ a o) : ∀ {vs ds}, IsAll φ vs ds → IsAll ψ vs ds
  | _, _, .nil => .nil
  | _, _, .cons a b => .cons (Is.mono h a) (IsAll.mono h b)
end

abbrev At (h : Heap) : Addr → Obj → Prop := fun a o => h.get? a = some o
abbrev In (l : List (Addr × Obj)) : Addr → Obj → Prop := fun a o => (a, o) ∈ l

theorem IsAll.length {φ : Addr → Obj → Prop} : ∀ {vs ds}, IsAll φ vs ds → vs.length = ds.length
  | _, _, .nil => rfl
  | _, _, .cons _ b => congrArg (· + 1) b.length
theorem IsAll.get {φ : Addr → Obj → Prop} : ∀ {vs : List Value} {ds : List D}, IsAll φ vs ds → ∀ (i : Nat) (v : Value), vs[i]? = some v → ∃ d, ds[i]? = some d ∧ Is φ v d
  | _, _, .nil, i, v, h => by simp at h
  | _, _, .cons (v := v₀) (d := d₀) a b, 0, v, h => by simp at h; subst h; exact ⟨d₀, rfl, a⟩
  | _, _, .cons a b, i + 1, v, h => b.get i v (by simpa using h)
theorem IsAll.append {φ : Addr → Obj → Prop} : ∀ {vs ds us es}, IsAll φ vs ds → IsAll φ us es → IsAll φ (vs ++ us) (ds ++ es)
  | _, _, _, _, .nil, y => y
  | _, _, _, _, .cons a b, y => .cons a (b.append y)

section
variable {φ : Addr → Obj → Prop} {v : Value} {d d1 d2 d3 d4 : D}
theorem Is.int' {n : Int} (h : Is φ v (.int n)) : ∃ t, v = .int n t := by cases h; exact ⟨_, rfl⟩
theorem Is.str' {x : Str} (h : Is φ v (.str x)) : ∃ t, v = .str x t := by cases h; exact ⟨_, rfl⟩
theorem Is.none' (h : Is φ v .none) : v = .none := by cases h; rfl
theorem Is.tup' {ds : List D} (h : Is φ v (.tup ds)) : ∃ a vs n, v = .ref a ∧ φ a (tupO vs n) ∧ IsAll φ vs ds := by cases h; exact ⟨_, _, _, rfl, by assumption, by assumption⟩
theorem Is.lst' {ds : List D} (h : Is φ v (.lst ds)) : ∃ a vs n, v = .ref a ∧ φ a (lstO vs n) ∧ IsAll φ vs ds := by cases h; exact ⟨_, _, _, rfl, by assumption, by assumption⟩
theorem IsAll.ofInts : ∀ {vs : List Value} {ns : List Int}, IntsAre vs ns → IsAll φ vs (ns.map D.int)
  | _, _, .nil => .nil
  | _, _, .cons n t h => .cons (.int n t) (IsAll.ofInts h)
theorem IsAll.ints : ∀ {vs : List Value} {ns : List Int}, IsAll φ vs (ns.map D.int) → IntsAre vs ns
  | _, [], .nil => .nil
  | _, n :: ns, .cons a b => by
    obtain ⟨t, rfl⟩ := a.int'
    exact .cons n t b.ints
theorem Is.tup0 (h : Is φ v (.tup [])) : ∃ a n, v = .ref a ∧ φ a (tupO [] n) := by
  obtain ⟨a, vs, n, rfl, h1, h2⟩ := h.tup'
  cases h2; exact ⟨_, _, rfl, h1⟩
theorem Is.tup1 (h : Is φ v (.tup [d1])) : ∃ a v1 n, v = .ref a ∧ φ a (tupO [v1] n) ∧ Is φ v1 d1 := by
  obtain ⟨a, vs, n, rfl, h1, h2⟩ := h.tup'
  cases h2 with | cons a b => cases b; exact ⟨_, _, _, rfl, h1, a⟩
theorem Is.tup2 (h : Is φ v (.tup [d1, d2])) : ∃ a v1 v2 n, v = .ref a ∧ φ a (tupO [v1, v2] n) ∧ Is φ v1 d1 ∧ Is φ v2 d2 := by
  obtain ⟨a, vs, n, rfl, h1, h2⟩ := h.tup'
  cases h2 with | cons a b => cases b with | cons b c => cases c; exact ⟨_, _, _, _, rfl, h1, a, b⟩
theorem Is.tup3 (h : Is φ v (.tup [d1, d2, d3])) : ∃ a v1 v2 v3 n, v = .ref a ∧ φ a (tupO [v1, v2, v3] n) ∧ Is φ v1 d1 ∧ Is φ v2 d2 ∧ Is φ v3 d3 := by
  obtain ⟨a, vs, n, rfl, h1, h2⟩ := h.tup'
  cases h2 with | cons a b => cases b with | cons b c => cases c with | cons c d => cases d; exact ⟨_, _, _, _, _, rfl, h1, a, b, c⟩
theorem Is.tup4 (h : Is φ v (.tup [d1, d2, d3, d4])) : ∃ a v1 v2 v3 v4 n, v = .ref a ∧ φ a (tupO [v1, v2, v3, v4] n) ∧ Is φ v1 d1 ∧ Is φ v2 d2 ∧ Is φ v3 d3 ∧ Is φ v4 d4 := by
  obtain ⟨a, vs, n, rfl, h1, h2⟩ := h.tup'
  cases h2 with | cons a b => cases b with | cons b c => cases c with | cons c d => cases d with | cons d e => cases e; exact ⟨_, _, _, _, _, _, rfl, h1, a, b, c, d⟩
theorem Is.tup5 {d5 : D} (h : Is φ v (.tup [d1, d2, d3, d4, d5])) : ∃ a v1 v2 v3 v4 v5 n, v = .ref a ∧ φ a (tupO [v1, v2, v3, v4, v5] n) ∧ Is φ v1 d1 ∧ Is φ v2 d2 ∧ Is φ v3 d3 ∧ Is φ v4 d4 ∧ Is φ v5 d5 := by
  obtain ⟨a, vs, n, rfl, h1, h2⟩ := h.tup'
  cases h2 with | cons a b => cases b with | cons b c => cases c with | cons c d => cases d with | cons d e => cases e with | cons e f => cases f; exact ⟨_, _, _, _, _, _, _, rfl, h1, a, b, c, d, e⟩
end

inductive Step where
  | index (k : Int)
  | field (k : Int)
  | deref
  | downcast (k : Int)
def Step.d : Step → D
  | .index k => .tup [.str (Str.ofString "index"), .int k]
  | .field k => .tup [.str (Str.ofString "field"), .int k]
  | .deref => .tup [.str (Str.ofString "deref")]
  | .downcast k => .tup [.str (Str.ofString "downcast"), .int k]
def Step.idx : Step → Option Int
  | .index k => some k
  | _ => none
structure Place where
  loc : Int
  steps : List Step
def Place.d (p : Place) : D := .tup [.int p.loc, .tup (p.steps.map Step.d)]
def Place.idx (p : Place) : List Int := p.steps.filterMap Step.idx
/-- what whole_reads tells -/
def Place.whole (p : Place) : List Int := p.loc :: p.idx
/-- what place_reads tells -/
def Place.set (p : Place) : List Int := p.idx ++ (if p.steps = [] then [] else [p.loc])

inductive Operand where
  | copy (p : Place)
  | move (p : Place)
  | const (n : Int)
def Operand.d : Operand → D
  | .copy p => .tup [.str (Str.ofString "copy"), p.d]
  | .move p => .tup [.str (Str.ofString "move"), p.d]
  | .const n => .tup [.str (Str.ofString "const"), .tup [.str (Str.ofString "int"), .str (Str.ofString "u8")], .int n]
def Operand.reads : Operand → List Int
  | .copy p => p.whole
  | .move p => p.whole
  | .const _ => []
def Operand.ok : Operand → Prop
  | .copy p => p.steps.length ≤ 64
  | .move p => p.steps.length ≤ 64
  | .const _ => True
def allReads (os : List Operand) : List Int := os.flatMap Operand.reads

theorem Place.whole_le (p : Place) (h : p.steps.length ≤ 64) : p.whole.length ≤ 65 := by
  have := List.length_filterMap_le Step.idx p.steps
  unfold Place.whole Place.idx
  rw [List.length_cons]; omega
theorem Operand.reads_le (o : Operand) (h : o.ok) : o.reads.length ≤ 65 := by
  cases o with
  | copy p => exact p.whole_le h
  | move p => exact p.whole_le h
  | const n => exact Nat.zero_le _
theorem allReads_le : ∀ (os : List Operand), (∀ o ∈ os, o.ok) → (allReads os).length ≤ 65 * os.length
  | [], _ => Nat.le_refl _
  | o :: r, h => by
    have h1 := o.reads_le (h o (.head _))
    have h2 := allReads_le r fun x hx => h x (.tail _ hx)
    unfold allReads at h2 ⊢
    rw [List.flatMap_cons, List.length_append, List.length_cons]; omega
theorem allReads_take (os : List Operand) (i : Nat) (o : Operand) (h : os[i]? = some o) : allReads (os.take (i + 1)) = allReads (os.take i) ++ o.reads := by
  unfold allReads
  rw [List.take_add_one, h, List.flatMap_append]
  simp

inductive Rvalue where
  | ref (p : Place)
  | discr (p : Place)
  | tup (os : List Operand)
  | arr (os : List Operand)
  | adt (os : List Operand)
  | binary (x y : Operand)
  | checked (x y : Operand)
  | use (x : Operand)
  | box (x : Operand)
  | unary (x : Operand)
  | cast (x : Operand)
def Rvalue.d : Rvalue → D
  | .ref p => .tup [.str (Str.ofString "ref"), .none, .str (Str.ofString "mut"), p.d]
  | .discr p => .tup [.str (Str.ofString "discriminant"), p.d]
  | .tup os => .tup [.str (Str.ofString "tuple"), .tup (os.map Operand.d)]
  | .arr os => .tup [.str (Str.ofString "array"), .tup (os.map Operand.d)]
  | .adt os => .tup [.str (Str.ofString "adt"), .tup [.str (Str.ofString "adt"), .str (Str.ofString "S"), .tup [], .tup []], .int 0, .tup (os.map Operand.d)]
  | .binary x y => .tup [.str (Str.ofString "binary"), .str (Str.ofString "+"), x.d, y.d]
  | .checked x y => .tup [.str (Str.ofString "checked"), .str (Str.ofString "+"), x.d, y.d]
  | .use x => .tup [.str (Str.ofString "use"), x.d]
  | .box x => .tup [.str (Str.ofString "box"), x.d]
  | .unary x => .tup [.str (Str.ofString "unary"), .str (Str.ofString "!"), x.d]
  | .cast x => .tup [.str (Str.ofString "cast"), x.d, .tup [.str (Str.ofString "bool")]]
/-- the operands; none of a loan and of a variant's read -/
def Rvalue.ops : Rvalue → List Operand
  | .ref _ => []
  | .discr _ => []
  | .tup os => os
  | .arr os => os
  | .adt os => os
  | .binary x y => [x, y]
  | .checked x y => [x, y]
  | .use x => [x]
  | .box x => [x]
  | .unary x => [x]
  | .cast x => [x]
def Rvalue.reads : Rvalue → List Int
  | .ref p => p.whole
  | .discr p => p.whole
  | r => allReads r.ops
def Rvalue.ok : Rvalue → Prop
  | .ref p => p.steps.length ≤ 64
  | .discr p => p.steps.length ≤ 64
  | r => (∀ o ∈ r.ops, o.ok) ∧ r.ops.length ≤ 64

inductive Term where
  | goto
  | switch (x : Operand)
  | assert (x : Operand)
  | call (os : List Operand) (goal : Place)
  | drop (p : Place)
  | ret
  | panic
  | unreachable
def Term.d : Term → D
  | .goto => .tup [.str (Str.ofString "goto"), .int 0]
  | .switch x => .tup [.str (Str.ofString "switch"), x.d, .tup [.tup [.int 0, .int 0]], .int 1]
  | .assert x => .tup [.str (Str.ofString "assert"), x.d, .bool true, .str (Str.ofString "t"), .int 0]
  | .call os goal => .tup [.str (Str.ofString "call"), .tup [.str (Str.ofString "fn"), .str (Str.ofString "f"), .tup []], .tup (os.map Operand.d), goal.d, .none]
  | .drop p => .tup [.str (Str.ofString "drop"), p.d, .int 1]
  | .ret => .tup [.str (Str.ofString "return")]
  | .panic => .tup [.str (Str.ofString "panic"), .str (Str.ofString "t")]
  | .unreachable => .tup [.str (Str.ofString "unreachable")]
def Term.reads : Term → List Int
  | .switch x => x.reads
  | .assert x => x.reads
  | .call os goal => allReads os ++ goal.set
  | .drop p => p.whole
  | .ret => [0]
  | _ => []
/-- the place that a call sets -/
def Term.more : Term → List Int
  | .call _ goal => goal.whole
  | _ => []
def Term.ok : Term → Prop
  | .switch x => x.ok
  | .assert x => x.ok
  | .call os goal => (∀ o ∈ os, o.ok) ∧ os.length ≤ 64 ∧ goal.steps.length ≤ 64
  | .drop p => p.steps.length ≤ 64
  | _ => True
theorem Place.set_le (p : Place) (h : p.steps.length ≤ 64) : p.set.length ≤ 65 := by
  have := List.length_filterMap_le Step.idx p.steps
  unfold Place.set Place.idx
  rw [List.length_append]
  split <;> simp only [List.length_nil, List.length_cons] <;> omega
theorem Rvalue.reads_le (r : Rvalue) (h : r.ok) : r.reads.length ≤ 4160 := by
  cases r with
  | ref p => exact Nat.le_trans (p.whole_le h) (by decide)
  | discr p => exact Nat.le_trans (p.whole_le h) (by decide)
  | _ => exact Nat.le_trans (allReads_le _ h.1) (by have := h.2; omega)
theorem Term.reads_le (t : Term) (h : t.ok) : t.reads.length ≤ 4300 := by
  cases t with
  | switch x => exact Nat.le_trans (x.reads_le h) (by decide)
  | assert x => exact Nat.le_trans (x.reads_le h) (by decide)
  | call os goal =>
    have h1 := allReads_le os h.1
    have h2 := goal.set_le h.2.2
    have h3 := h.2.1
    show (allReads os ++ goal.set).length ≤ _
    rw [List.length_append]; omega
  | drop p => exact Nat.le_trans (p.whole_le h) (by decide)
  | ret => decide
  | _ => exact Nat.zero_le _
theorem Term.more_le (t : Term) (h : t.ok) : t.more.length ≤ 65 := by
  cases t with
  | call os goal => exact goal.whole_le h.2.2
  | _ => exact Nat.zero_le _

theorem step_head {φ : Addr → Obj → Prop} {v : Value} {st : Step} (h : Is φ v st.d) :
    ∃ a x tx rest n, v = .ref a ∧ φ a (tupO (.str x tx :: rest) n) ∧ (x == Str.ofString "index") = st.idx.isSome ∧ ∀ k, st.idx = some k → ∃ t, rest = [.int k t] := by
  cases st <;> (cases h with | tup h1 h2 => (cases h2 with | cons h3 h4 => (cases h3; exact ⟨_, _, _, _, _, rfl, h1, rfl, fun k hk => by
    first
    | (cases hk; cases h4 with | cons h5 h6 => (cases h5; cases h6; exact ⟨_, rfl⟩))
    | (cases hk)⟩)))

/-- the index that a step's value tells, read off a heap -/
def idxOf (g : Heap) (v : Value) : Option Int :=
  match v with
  | .ref a => match g.get? a with
    | some o => match o.data with
      | .seq its _ => match its.toList with
        | Value.str x _ :: Value.int k _ :: _ => if x == Str.ofString "index" then some k else none
        | _ => none
      | _ => none
    | none => none
  | _ => none
theorem idxOf_eq {g : Heap} {v : Value} {st : Step} (h : Is (At g) v st.d) : idxOf g v = st.idx := by
  obtain ⟨a, x, tx, rest, n, rfl, h1, h2, h3⟩ := step_head h
  simp only [At] at h1
  unfold idxOf
  simp only [h1]
  cases hs : st.idx with
  | none =>
    rw [hs] at h2
    simp only [Option.isSome_none] at h2
    show (match (Value.str x tx :: rest) with
        | Value.str x _ :: Value.int k _ :: _ => if x == Str.ofString "index" then some k else none
        | _ => none) = _
    split
    · rename_i e
      cases e
      rw [h2]; rfl
    · rfl
  | some k =>
    obtain ⟨t, rfl⟩ := h3 k hs
    rw [hs] at h2
    simp only [Option.isSome_some] at h2
    show (if (x == Str.ofString "index") = true then some k else none) = _
    rw [h2]; rfl

theorem ints_of_steps {g : Heap} : ∀ {vs : List Value} {ss : List Step} {ys : List Value}, IsAll (At g) vs (ss.map Step.d) → Paired (fun v y => ∃ k t, idxOf g v = some k ∧ y = Value.int k t) (vs.filter fun v => (idxOf g v).isSome) ys → IntsAre ys (ss.filterMap Step.idx)
  | _, [], _, .nil, .nil => .nil
  | _, st :: ss, ys, .cons a b, h => by
    have e := idxOf_eq a
    cases hs : st.idx with
    | none =>
      rw [hs] at e
      simp only [List.filter_cons, e, Option.isSome_none, Bool.false_eq_true, if_false] at h
      rw [List.filterMap_cons, hs]
      exact ints_of_steps b h
    | some k =>
      rw [hs] at e
      simp only [List.filter_cons, e, Option.isSome_some, if_true] at h
      rw [List.filterMap_cons, hs]
      cases h with
      | cons h1 h2 =>
        obtain ⟨k', t, e1, rfl⟩ := h1
        rw [e] at e1
        cases e1
        exact .cons k t (ints_of_steps b h2)

abbrev projScope : Scope := { kind := .function, names := [(Str.ofString ".0", .local), (Str.ofString "projection", .local)], isGenerator := false, isCoroutine := false, more := [] }
abbrev projElt (p1 p2 p3 : Pos) : Expr := .Subscript (.Name (Str.ofString "projection") p1) (.Constant (.int 1) 0 p2) p3
abbrev projTest (p1 p2 p3 p4 p5 : Pos) : Expr := .Compare (.Subscript (.Name (Str.ofString "projection") p1) (.Constant (.int 0) 0 p2) p3) [.Eq] [.Constant (.str (Str.ofString "index")) 0 p4] p5

section
variable {prog : Program} {w : World} {A : Around} {E : Value → Shared → Prop} {s : Shared} {env : Env}

theorem proj_quiet {wr : List Addr} {vs : List Value} {ss : List Step} {g : Heap} {a1 a2 a3 b1 b2 b3 b4 b5 : Pos} (hI : IsAll (At g) vs (ss.map Step.d)) (hk : ∀ b o, g.get? b = some o → b ∉ wr ∧ s.heap.get? b = some o) :
    QuietOn prog w A env projScope (Str.ofString "projection") [projTest b1 b2 b3 b4 b5] (projElt a1 a2 a3) wr (fun i v => vs.toArray[i]? = some v) (fun v => (idxOf g v).isSome) (fun v y => ∃ k t, idxOf g v = some k ∧ y = Value.int k t) s := by
  constructor
  · intro C i v s₃ m₃ E' hP hn hm hkeep htk
    obtain ⟨d, hd, hv⟩ := hI.get i v (by simpa using hP)
    obtain ⟨st, hst, rfl⟩ : ∃ st, ss[i]? = some st ∧ st.d = d := by simpa using hd
    have e := idxOf_eq hv
    obtain ⟨a, x, tx, rest, n, rfl, h1, h2, h3⟩ := step_head hv
    have h1' : s₃.heap.get? a = some (tupO (.str x tx :: rest) n) := hkeep _ _ (hk _ _ h1).1 (hk _ _ h1).2
    refine wpAny_tests_one (wpAny_isTrue_Compare1 (Subscript_ (wpAny_Name (wpAny_loadName_local (by rfl) (by rfl) hn hm (wpAny_Constant_int ?_))))) 
    refine item_tupleT (l := .str x tx :: rest) (j := 0) ⟨_, h1', rfl, _, rfl⟩ (by decide) (by decide) (by simp [seqIndex?]) rfl ?_
    refine Constant_str (eq_str (wpAny_truthy_bool ⟨?_, _, _, rfl, fun b o q => q⟩))
    rw [e, h2]
  · intro C i v s₃ m₃ E' hP hp hn hm hkeep htk
    obtain ⟨d, hd, hv⟩ := hI.get i v (by simpa using hP)
    obtain ⟨st, hst, rfl⟩ : ∃ st, ss[i]? = some st ∧ st.d = d := by simpa using hd
    have e := idxOf_eq hv
    obtain ⟨a, x, tx, rest, n, rfl, h1, h2, h3⟩ := step_head hv
    have h1' : s₃.heap.get? a = some (tupO (.str x tx :: rest) n) := hkeep _ _ (hk _ _ h1).1 (hk _ _ h1).2
    rw [e] at hp
    obtain ⟨k, hk⟩ := Option.isSome_iff_exists.mp hp
    obtain ⟨t, rfl⟩ := h3 k hk
    refine Subscript_ (wpAny_Name (wpAny_loadName_local (by rfl) (by rfl) hn hm (wpAny_Constant_int ?_)))
    refine item_tupleT (l := [.str x tx, .int k t]) (j := 1) ⟨_, h1', rfl, _, rfl⟩ (by decide) (by decide) (by simp [seqIndex?]) rfl ?_
    exact ⟨⟨k, t, e.trans hk, rfl⟩, _, _, rfl, fun b o q => q⟩

theorem isTup_of {h : Heap} {b : Addr} {vs : List Value} {n : Nat} (e : h.get? b = some (tupO vs n)) : h.IsTuple b vs.toArray := ⟨_, e, rfl, n, rfl⟩
theorem isTup_of' {h : Heap} {b : Addr} {vs : List Value} {n : Nat} (e : h.get? b = some (tupO vs n)) : IsTup h b vs.toArray := ⟨_, e, rfl, n, rfl⟩
theorem News.keep1 {g h h' : Heap} {L l : Addr} {m : Str → Option Value} {o : Obj} {news : List (Addr × Obj)} (F : Fr g L h m) (N : News g L h news) (hk : ∀ b o, h.get? b = some o → h'.get? b = some o) (hl : h.get? l = none) (ho : h'.get? l = some o) :
    Fr g L h' m ∧ News g L h' ((l, o) :: news) ∧ ∀ p ∈ news, p.1 ≠ l := by
  refine ⟨F.keeps hk, fun p hp => ?_, fun p hp e => ?_⟩
  · rcases List.mem_cons.mp hp with rfl | hp
    · refine ⟨ho, fun e => ?_, ?_⟩
      · obtain ⟨_, _, _, q, _⟩ := F.ns
        rw [← e] at q
        dsimp only at q
        rw [hl] at q; cases q
      · cases q : g.get? l with
        | none => rfl
        | some x => have := F.keep _ _ q; rw [hl] at this; cases this
    · exact ⟨hk _ _ (N p hp).1, (N p hp).2⟩
  · have := (N p hp).1
    rw [e, hl] at this; cases this

theorem idx_ListComp_K {g : Heap} {L a b f : Addr} {cn : Str} {cs : Scope} {cd v0 : Value} {m : Str → Option Value} {news : List (Addr × Obj)} {vs : List Value} {ss : List Step} {n n' : Nat} {a1 a2 a3 b1 b2 b3 b4 b5 c1 c2 c3 px pos : Pos} {Q : Value → Shared → Prop}
    (F : Fr g L s.heap m) (N : News g L s.heap news) (hm : m (Str.ofString "place") = some (.ref a)) (h1 : g.get? a = some (tupO [v0, .ref b] n)) (h2 : g.get? b = some (tupO vs n')) (h3 : IsAll (At g) vs (ss.map Step.d)) (hz : ss.length ≤ 64) (hh : A.handled = none)
    (hQ : ∀ l ys k h' tk', Fr g L h' m → News g L h' ((l, lstO ys k) :: news) → (∀ p ∈ news, p.1 ≠ l) → IntsAre ys (ss.filterMap Step.idx) → (ss.filterMap Step.idx).length ≤ 64 → Q (.ref l) { s with heap := h', toks := tk' })
    (hkd : cs.kind = .function) (hx : (envOf cn cs L f cd).kindOf (Str.ofString "place") = some .local) :
    wpAny (model prog w) A (eval (.ListComp (projElt a1 a2 a3) [⟨.Name (Str.ofString "projection") px, .Subscript (.Name (Str.ofString "place") c1) (.Constant (.int 1) 0 c2) c3, [projTest b1 b2 b3 b4 b5], 0⟩] projScope pos) (envOf cn cs L f cd)) Q E s := by
  refine wpAny_ListComp_walk (fun v => (idxOf g v).isSome) (fun v y => ∃ k t, idxOf g v = some k ∧ y = Value.int k t) (by decide) (by decide) rfl (by decide) (by rfl) ?_
  refine Subscript_ (wpAny_Name (wpAny_loadName_local hkd hx F.ns hm (wpAny_Constant_int ?_)))
  refine item_tupleT (l := [v0, .ref b]) (j := 1) (isTup_of' (F.keep _ _ h1)) (by decide) (by decide) (by simp [seqIndex?]) rfl ?_
  have h2' := F.keep _ _ h2
  have hlt := Heap.lt_size h2'
  refine wpAny_pyIter_tuple (isTup_of h2') ?_
  have hlen : vs.length = ss.length := by simpa using h3.length
  have up : ∀ (b : Addr) (o : Obj), s.heap.get? b = some o → (s.heap.push { cls := .type "tuple_iterator", data := .fields #[.ref b, .int 0 0] }).get? b = some o := fun b o e => Heap.get?_push_of_some _ e
  refine ⟨_, _, _, _, _, _, rfl, Walks.tuple hh _ b (Nat.ne_of_lt hlt) vs.toArray, ?_, ⟨⟨_, Heap.get?_push_size _ rfl, rfl, rfl⟩, isTup_of (Heap.get?_push_of_some _ h2')⟩, ?_, ?_, ?_⟩
  · rw [PySem.sizeLine_eq, List.size_toArray]; omega
  · intro c hc
    show c < (s.heap.push _).objs.size
    rw [Heap.size_push]
    rcases List.mem_cons.mp hc with rfl | hc
    · exact Nat.lt_succ_self _
    · rw [List.mem_singleton.mp hc]; exact Nat.lt_succ_of_lt hlt
  · refine proj_quiet h3 fun c o e => ⟨fun hc => ?_, Heap.get?_push_of_some _ (F.keep _ _ e)⟩
    have := Heap.lt_size (F.keep _ _ e)
    rw [List.mem_singleton.mp hc] at this
    exact Nat.lt_irrefl _ this
  · intro D h' tk ys us hD hl hpl hn hP hpr hk
    obtain ⟨k, hpl⟩ := hpl
    have hus : us = vs := by
      apply List.ext_getElem?
      intro i
      cases e : us[i]? with
      | some v => simpa using (hP i v e).symm
      | none =>
        have hlt' : us.length ≤ i := by simpa using e
        rw [List.size_toArray] at hn
        have : vs.length ≤ i := by omega
        simp [this]
    subst hus
    have hD' : s.heap.get? D = none := by
      cases e : s.heap.get? D with
      | none => rfl
      | some o =>
        have := Heap.get?_push_of_some { cls := .type "tuple_iterator", data := .fields #[.ref b, .int 0 0] } e
        rw [this] at hD; cases hD
    have keep : ∀ b o, s.heap.get? b = some o → h'.get? b = some o := fun c o e => by
      refine hk c o (fun hc => ?_) (Heap.get?_push_of_some _ e)
      have := Heap.lt_size e
      rw [List.mem_singleton.mp hc] at this
      exact Nat.lt_irrefl _ this
    obtain ⟨F', N', off⟩ := News.keep1 F N keep hD' hpl
    exact hQ D ys.toList k h' tk F' (by simpa using N') off (ints_of_steps h3 hpr) (Nat.le_trans (List.length_filterMap_le _ _) hz)

theorem idx_Assign_K {g : Heap} {L a b f : Addr} {cn : Str} {cs : Scope} {cd v0 : Value} {m : Str → Option Value} {news : List (Addr × Obj)} {vs : List Value} {ss : List Step} {n n' : Nat} {a1 a2 a3 b1 b2 b3 b4 b5 c1 c2 c3 px pos py spos : Pos} {Q : Flow → Shared → Prop}
    (F : Fr g L s.heap m) (N : News g L s.heap news) (hm : m (Str.ofString "place") = some (.ref a)) (h1 : g.get? a = some (tupO [v0, .ref b] n)) (h2 : g.get? b = some (tupO vs n')) (h3 : IsAll (At g) vs (ss.map Step.d)) (hz : ss.length ≤ 64) (hh : A.handled = none)
    (hQ : ∀ l ys k h' tk', Fr g L h' (fun z => if z = Str.ofString "found" then some (.ref l) else m z) → News g L h' ((l, lstO ys k) :: news) → (∀ p ∈ news, p.1 ≠ l) → IntsAre ys (ss.filterMap Step.idx) → (ss.filterMap Step.idx).length ≤ 64 → Q .next { s with heap := h', toks := tk' })
    (hsw : swapsWith (.ListComp (projElt a1 a2 a3) [⟨.Name (Str.ofString "projection") px, .Subscript (.Name (Str.ofString "place") c1) (.Constant (.int 1) 0 c2) c3, [projTest b1 b2 b3 b4 b5], 0⟩] projScope pos) (some (.Name (Str.ofString "found") py)) spos.line (envOf cn cs L f cd) = pure true)
    (hkd : cs.kind = .function) (hx : (envOf cn cs L f cd).kindOf (Str.ofString "place") = some .local) (hy : (envOf cn cs L f cd).kindOf (Str.ofString "found") = some .local) :
    wpAny (model prog w) A (exec (.Assign [.Name (Str.ofString "found") py] (.ListComp (projElt a1 a2 a3) [⟨.Name (Str.ofString "projection") px, .Subscript (.Name (Str.ofString "place") c1) (.Constant (.int 1) 0 c2) c3, [projTest b1 b2 b3 b4 b5], 0⟩] projScope pos) spos) (envOf cn cs L f cd)) Q E s := by
  refine wpAny_Assign_ListComp_walk (fun v => (idxOf g v).isSome) (fun v y => ∃ k t, idxOf g v = some k ∧ y = Value.int k t) hsw (by decide) (by decide) rfl (by decide) (by rfl) hy (by show (cs.kind == .class || (cs.kind == .module && L != mainGlobals)) = false; rw [hkd]; rfl) ?_
  refine Subscript_ (wpAny_Name (wpAny_loadName_local hkd hx F.ns hm (wpAny_Constant_int ?_)))
  refine item_tupleT (l := [v0, .ref b]) (j := 1) (isTup_of' (F.keep _ _ h1)) (by decide) (by decide) (by simp [seqIndex?]) rfl ?_
  have h2' := F.keep _ _ h2
  have hlt := Heap.lt_size h2'
  refine wpAny_pyIter_tuple (isTup_of h2') ?_
  have hlen : vs.length = ss.length := by simpa using h3.length
  refine ⟨_, _, _, _, _, _, m, rfl, Walks.tuple hh _ b (Nat.ne_of_lt hlt) vs.toArray, ?_, ⟨⟨_, Heap.get?_push_size _ rfl, rfl, rfl⟩, isTup_of (Heap.get?_push_of_some _ h2')⟩, ?_, ?_, F.ns.push _, ?_, ?_⟩
  · rw [PySem.sizeLine_eq, List.size_toArray]; omega
  · intro c hc
    show c < (s.heap.push _).objs.size
    rw [Heap.size_push]
    rcases List.mem_cons.mp hc with rfl | hc
    · exact Nat.lt_succ_self _
    · rw [List.mem_singleton.mp hc]; exact Nat.lt_succ_of_lt hlt
  · intro hc
    exact absurd F.ns.lt ((List.mem_singleton.mp hc) ▸ Nat.lt_irrefl _)
  · refine proj_quiet h3 fun c o e => ⟨fun hc => ?_, Heap.get?_push_of_some _ (F.keep _ _ e)⟩
    have := Heap.lt_size (F.keep _ _ e)
    rw [List.mem_singleton.mp hc] at this
    exact Nat.lt_irrefl _ this
  · intro D h' tk ys us hD hl hpl hn hP hpr hns hk
    obtain ⟨k, hpl⟩ := hpl
    have hus : us = vs := by
      apply List.ext_getElem?
      intro i
      cases e : us[i]? with
      | some v => simpa using (hP i v e).symm
      | none =>
        have hlt' : us.length ≤ i := by simpa using e
        rw [List.size_toArray] at hn
        have : vs.length ≤ i := by omega
        simp [this]
    subst hus
    have hD' : s.heap.get? D = none := by
      cases e : s.heap.get? D with
      | none => rfl
      | some o =>
        have := Heap.get?_push_of_some { cls := .type "tuple_iterator", data := .fields #[.ref b, .int 0 0] } e
        rw [this] at hD; cases hD
    have keep : ∀ b o, b ≠ L → s.heap.get? b = some o → h'.get? b = some o := fun c o hL e => by
      refine hk c o hL (fun hc => ?_) (Heap.get?_push_of_some _ e)
      have := Heap.lt_size e
      rw [List.mem_singleton.mp hc] at this
      exact Nat.lt_irrefl _ this
    have hL₀ : g.get? L = none := Heap.get?_none_of_le F.above
    have F' : Fr g L h' (fun z => if z = Str.ofString "found" then some (.ref D) else m z) := ⟨hns, fun b o e => keep b o (fun q => by rw [q, hL₀] at e; cases e) (F.keep b o e), F.above⟩
    refine hQ D ys.toList k h' tk F' (fun p hp => ?_) (fun p hp e => ?_) (ints_of_steps h3 hpr) (Nat.le_trans (List.length_filterMap_le _ _) hz)
    · rcases List.mem_cons.mp hp with rfl | hp
      · refine ⟨by simpa using hpl, fun e => ?_, ?_⟩
        · obtain ⟨_, _, _, q, _⟩ := F.ns
          rw [← e] at q
          dsimp only at q
          rw [hD'] at q; cases q
        · cases q : g.get? D with
          | none => rfl
          | some x => have := F.keep _ _ q; rw [hD'] at this; cases this
      · exact ⟨keep _ _ (N p hp).2.1 (N p hp).1, (N p hp).2⟩
    · have := (N p hp).1
      rw [e, hD'] at this; cases this

theorem base_item {g : Heap} {L a : Addr} {m : Str → Option Value} {value slice : Expr} {vs : List Value} {n j : Nat} {k : Int} {u : Tok} {x : Value} {Q : Value → Shared → Prop} (F : Fr g L s.heap m) (h1 : g.get? a = some (tupO vs n))
    (hlo : -(2 ^ 63) ≤ k) (hhi : k < 2 ^ 63) (hj : seqIndex? k vs.length = some j) (hx : vs[j]? = some x) (h : Q x s)
    (hs : subscripted slice false (.ref a) (.int k u) = operate [.ref a, .int k u] (getItem (.ref a) (.int k u)) := by with_unfolding_all rfl) :
    wpAny (model prog w) A (subscriptTail value slice (.ref a) (.int k u)) Q E s :=
  item_tupleT (isTup_of' (F.keep _ _ h1)) hlo hhi hj hx h hs

theorem ne_nil_K {g : Heap} {L a d : Addr} {m : Str → Option Value} {news : List (Addr × Obj)} {vs : List Value} {n : Nat} {Q : Value → Shared → Prop} (F : Fr g L s.heap m) (N : News g L s.heap news) (h1 : g.get? a = some (tupO vs n))
    (h2 : (d, ({ cls := .type "tuple", data := .seq #[] } : Obj)) ∈ news) (hu : A.units < cLine) (h : Q (.bool (decide (vs ≠ []))) s) : wpAny (model prog w) A (compareOp .NotEq (.ref a) (.ref d)) Q E s := by
  have hd : IsTup s.heap d #[] := ⟨_, (N _ h2).1, rfl, 0, rfl⟩
  refine SeqAt.RcNeAt.tuples (e := fun _ => true) (isTup_of (F.keep _ _ h1)) (items2 := #[]) hd hu (fun j h1 h2 => absurd h2 (Nat.not_lt_zero _)) prog w _ _ ?_
  cases vs with
  | nil => simpa using h
  | cons v r => simpa using h
end

theorem News.sub {g h : Heap} {L : Addr} {l l' : List (Addr × Obj)} (N : News g L h l) (hs : ∀ p ∈ l', p ∈ l) : News g L h l' := fun p hp => N p (hs p hp)
theorem News.pick {g h : Heap} {L a : Addr} {o : Obj} {l l' : List (Addr × Obj)} (N : News g L h l) (hm : (a, o) ∈ l) (T : News g L h l') : News g L h ((a, o) :: l') := fun p hp => by
  rcases List.mem_cons.mp hp with rfl | hp
  · exact N _ hm
  · exact T p hp
theorem News.app {g h : Heap} {L : Addr} {l l' : List (Addr × Obj)} (N : News g L h l) (T : News g L h l') : News g L h (l ++ l') := fun p hp =>
  (List.mem_append.mp hp).elim (N p) (T p)

/-- a turn's end: the iterator is as it was, the rest is as J wants it -/
def TurnEnd (g : Heap) (L : Addr) (J : (Str → Option Value) → List (Addr × Obj) → Prop) (I : Addr) (oI : Obj) (s₁ : Shared) (Q : Flow → Shared → Prop) (f : Flow) (s₂ : Shared) : Prop :=
  match f with
  | .ret v => Q (.ret v) s₂
  | .brk => Q .next s₂
  | _ => ∃ h' tk m' nx, s₂ = { s₁ with heap := h', toks := tk } ∧ Fr g L h' m' ∧ News g L h' ((I, oI) :: nx) ∧ (∀ p ∈ nx, p.1 ≠ I) ∧ J m' nx
theorem TurnEnd.intro {g : Heap} {L : Addr} {J : (Str → Option Value) → List (Addr × Obj) → Prop} {I : Addr} {oI : Obj} {s₁ : Shared} {Q : Flow → Shared → Prop} {h' : Heap} {tk : Nat} {m' : Str → Option Value} (nx : List (Addr × Obj))
    (F : Fr g L h' m') (N : News g L h' ((I, oI) :: nx)) (off : ∀ p ∈ nx, p.1 ≠ I) (j : J m' nx) : TurnEnd g L J I oI s₁ Q .next { s₁ with heap := h', toks := tk } := ⟨h', tk, m', nx, rfl, F, N, off, j⟩

section
variable {prog : Program} {w : World} {A : Around} {E : Value → Shared → Prop} {s : Shared} {env : Env} {g : Heap} {x : Str} {body : List Stmt} {Q : Flow → Shared → Prop}

theorem loopV_of {I : Addr} {fp : List Addr} {n : Nat} {P : Nat → Value → Prop} {St : Nat → Heap → Prop} {m₀ : Str → Option Value} {news : List (Addr × Obj)} (sr : List (Addr × Obj)) (J : Nat → (Str → Option Value) → List (Addr × Obj) → Prop)
    (W : Walks prog w A I fp [I] n P St) (hfp : ∀ b ∈ fp, b = I ∨ (∃ o, g.get? b = some o) ∨ ∃ o, (b, o) ∈ sr) (hsr : ∀ i m nx, J i m nx → ∀ p ∈ sr, p ∈ nx) (hIo : ∀ i h, St i h → ∃ o, h.get? I = some o)
    (hst : St 0 s.heap) (hLf : env.locals ∉ fp) (hI : g.get? I = none) (hnI : ∀ p ∈ news, p.1 ≠ I) (F : Fr g env.locals s.heap m₀) (N : News g env.locals s.heap news) (h0 : J 0 m₀ news)
    (turn : ∀ i v m₁ nx h tk oI, i < n → P i v → J i m₁ nx → (∀ p ∈ nx, p.1 ≠ I) → Fr g env.locals h (fun y => if y = x then some v else m₁ y) → News g env.locals h ((I, oI) :: nx) →
      wpAny (model prog w) A (execs body env) (TurnEnd g env.locals (J (i + 1)) I oI { s with heap := h, toks := tk } Q) E { s with heap := h, toks := tk })
    (done : ∀ m₁ nx h tk, J n m₁ nx → Fr g env.locals h m₁ → News g env.locals h nx → Q .next { s with heap := h, toks := tk }) :
    LoopAtV prog w A g env x body Q E (.ref I) s := by
  refine ⟨I, fp, [I], n, P, St, m₀, news, J, rfl, W, hLf, (fun b hb => by rw [List.mem_singleton.mp hb]; exact hI), (fun p hp hb => hnI p hp (List.mem_singleton.mp hb)), hst, F, N, h0, ?_, ?_⟩
  · rintro i v m₁ nx s₁ own ⟨hh, tk, rfl⟩ hi hP hJ hoff hown hget hall hst₁ F₁ N₁
    obtain ⟨oI, hoI⟩ := hIo _ _ hst₁
    have hIown : (I, oI) ∈ own := hall I (W.sub I (List.mem_singleton.mpr rfl)) hI oI hoI
    have hoff' : ∀ p ∈ nx, p.1 ≠ I := fun p hp e => hoff p hp (List.mem_singleton.mpr e)
    have N₂ : News g env.locals hh ((I, oI) :: nx) := fun p hp => by
      rcases List.mem_cons.mp hp with rfl | hp
      · exact N₁ _ (List.mem_append_left _ hIown)
      · exact N₁ _ (List.mem_append_right _ hp)
    refine wpAny_mono (turn i v m₁ nx hh tk oI hi hP hJ hoff' F₁ N₂) (fun f s₂ h₂ => ?_) fun _ _ e => e
    have fin : (∃ h' tk' m' nx, s₂ = { s with heap := h', toks := tk' } ∧ Fr g env.locals h' m' ∧ News g env.locals h' ((I, oI) :: nx) ∧ (∀ p ∈ nx, p.1 ≠ I) ∧ J (i + 1) m' nx) →
        LoopStepU g env.locals [I] own (J (i + 1)) { s with heap := hh, toks := tk } .next s₂ := by
      rintro ⟨h', tk', m', nx', rfl, F', N', off', hJ'⟩
      refine ⟨rfl, h', tk', m', nx', rfl, F', ?_, fun p hp hb => off' p hp (List.mem_singleton.mp hb), hJ'⟩
      intro p hp
      rcases List.mem_append.mp hp with hp | hp
      · rcases hfp _ (hown p hp) with e | ⟨o, e⟩ | ⟨o, e⟩
        · have h1 := hget p hp
          rw [e] at h1
          dsimp only at h1
          rw [hoI] at h1
          have : p = (I, oI) := by
            obtain ⟨p1, p2⟩ := p
            cases h1; cases e; rfl
          rw [this]
          exact N' _ (.head _)
        · have := (N₁ p (List.mem_append_left _ hp)).2.2
          rw [e] at this; cases this
        · have h1 := hget p hp
          dsimp only at h1
          have h3 := (N₁ _ (List.mem_append_right _ (hsr _ _ _ hJ _ e))).1
          dsimp only at h3
          rw [h3] at h1
          have : p = (p.1, o) := by
            obtain ⟨p1, p2⟩ := p
            cases h1; rfl
          rw [this]
          exact N' _ (.tail _ (hsr _ _ _ hJ' _ e))
      · exact N' _ (.tail _ hp)
    cases f with
    | ret v => exact h₂
    | brk => exact h₂
    | next => exact fin h₂
    | cont => exact fin h₂
  · rintro h' tk m' nx F' N' _ hJ
    exact done m' nx h' tk hJ F' N'

theorem seq_facts {l : Addr} {m₀ : Str → Option Value} {o : Obj} (F : Fr g env.locals s.heap m₀) (hl : s.heap.get? l = some o) (hlL : l ≠ env.locals) :
    l ≠ s.heap.objs.size ∧ env.locals ∉ [s.heap.objs.size, l] ∧ g.get? s.heap.objs.size = none := by
  refine ⟨Nat.ne_of_lt (Heap.lt_size hl), fun hm => ?_, next_is_new F⟩
  rcases List.mem_cons.mp hm with e | hm
  · exact absurd F.ns.lt (e ▸ Nat.lt_irrefl _)
  · exact hlL (List.mem_singleton.mp hm).symm

theorem base_ne {l : Addr} {m₀ : Str → Option Value} {o : Obj} (F : Fr g env.locals s.heap m₀) (hl : g.get? l = some o) : l ≠ env.locals := fun e => by
  have := Nat.lt_of_lt_of_le (Heap.lt_size hl) F.above
  rw [e] at this
  exact Nat.lt_irrefl _ this

/-- a for over a tuple that stands in the base -/
theorem tup_loop {l : Addr} {vs : List Value} {n : Nat} {m₀ : Str → Option Value} {news : List (Addr × Obj)} (J : Nat → (Str → Option Value) → List (Addr × Obj) → Prop)
    (hh : A.handled = none) (hl : g.get? l = some (tupO vs n)) (F : Fr g env.locals s.heap m₀) (N : News g env.locals s.heap news) (h0 : J 0 m₀ news)
    (turn : ∀ i v m₁ nx h tk I oI, vs[i]? = some v → J i m₁ nx → (∀ p ∈ nx, p.1 ≠ I) → Fr g env.locals h (fun y => if y = x then some v else m₁ y) → News g env.locals h ((I, oI) :: nx) →
      wpAny (model prog w) A (execs body env) (TurnEnd g env.locals (J (i + 1)) I oI { s with heap := h, toks := tk } Q) E { s with heap := h, toks := tk })
    (done : ∀ m₁ nx h tk, J vs.length m₁ nx → Fr g env.locals h m₁ → News g env.locals h nx → Q .next { s with heap := h, toks := tk }) :
    wpAny (model prog w) A (pyIter (.ref l)) (fun it s₂ => LoopAtV prog w A g env x body Q E it s₂) E s := by
  have hl' := F.keep _ _ hl
  obtain ⟨h1, h2, h3⟩ := seq_facts F hl' (base_ne F hl)
  refine wpAny_pyIter_tuple (isTup_of hl') ?_
  refine loopV_of [] J (Walks.tuple hh _ l h1 vs.toArray) (fun b hb => ?_) (fun _ _ _ _ _ hp => nomatch hp) (fun i h st => by obtain ⟨o, e, _⟩ := st.1; exact ⟨o, e⟩) ⟨⟨_, Heap.get?_push_size _ rfl, rfl, rfl⟩, isTup_of (Heap.get?_push_of_some _ hl')⟩ h2 h3
    (fun p hp => Nat.ne_of_lt (Heap.lt_size (N p hp).1)) (F.push _) (fun p hp => ⟨Heap.get?_push_of_some _ (N p hp).1, (N p hp).2⟩) h0 (fun i v m₁ nx h tk oI _ hP => turn i v m₁ nx h tk _ oI (by simpa using hP)) (by simpa using done)
  rcases List.mem_cons.mp hb with e | hb
  · exact .inl e
  · exact .inr (.inl ⟨_, (List.mem_singleton.mp hb) ▸ hl⟩)

/-- a for over a list that stands in the base -/
theorem lst_loop {l : Addr} {vs : List Value} {n : Nat} {m₀ : Str → Option Value} {news : List (Addr × Obj)} (J : Nat → (Str → Option Value) → List (Addr × Obj) → Prop)
    (hh : A.handled = none) (hl : g.get? l = some (lstO vs n)) (F : Fr g env.locals s.heap m₀) (N : News g env.locals s.heap news) (h0 : J 0 m₀ news)
    (turn : ∀ i v m₁ nx h tk I oI, vs[i]? = some v → J i m₁ nx → (∀ p ∈ nx, p.1 ≠ I) → Fr g env.locals h (fun y => if y = x then some v else m₁ y) → News g env.locals h ((I, oI) :: nx) →
      wpAny (model prog w) A (execs body env) (TurnEnd g env.locals (J (i + 1)) I oI { s with heap := h, toks := tk } Q) E { s with heap := h, toks := tk })
    (done : ∀ m₁ nx h tk, J vs.length m₁ nx → Fr g env.locals h m₁ → News g env.locals h nx → Q .next { s with heap := h, toks := tk }) :
    wpAny (model prog w) A (pyIter (.ref l)) (fun it s₂ => LoopAtV prog w A g env x body Q E it s₂) E s := by
  have hl' := F.keep _ _ hl
  obtain ⟨h1, h2, h3⟩ := seq_facts F hl' (base_ne F hl)
  have hL : s.heap.IsList l vs.toArray := ⟨_, hl', rfl, n, rfl⟩
  refine wpAny_pyIter_list hL ?_
  refine loopV_of [] J (Walks.list hh _ l h1 vs.toArray) (fun b hb => ?_) (fun _ _ _ _ _ hp => nomatch hp) (fun i h st => by obtain ⟨o, e, _⟩ := st.1; exact ⟨o, e⟩) ⟨⟨_, Heap.get?_push_size _ rfl, rfl, rfl⟩, hL.push _⟩ h2 h3
    (fun p hp => Nat.ne_of_lt (Heap.lt_size (N p hp).1)) (F.push _) (fun p hp => ⟨Heap.get?_push_of_some _ (N p hp).1, (N p hp).2⟩) h0 (fun i v m₁ nx h tk oI _ hP => turn i v m₁ nx h tk _ oI (by simpa using hP)) (by simpa using done)
  rcases List.mem_cons.mp hb with e | hb
  · exact .inl e
  · exact .inr (.inl ⟨_, (List.mem_singleton.mp hb) ▸ hl⟩)

/-- a for over a tuple or a list that stands in the base -/
theorem seq_loop {l : Addr} {vs : List Value} {n : Nat} {m₀ : Str → Option Value} {news : List (Addr × Obj)} (J : Nat → (Str → Option Value) → List (Addr × Obj) → Prop)
    (hh : A.handled = none) (hl : g.get? l = some (tupO vs n) ∨ g.get? l = some (lstO vs n)) (F : Fr g env.locals s.heap m₀) (N : News g env.locals s.heap news) (h0 : J 0 m₀ news)
    (turn : ∀ i v m₁ nx h tk I oI, vs[i]? = some v → J i m₁ nx → (∀ p ∈ nx, p.1 ≠ I) → Fr g env.locals h (fun y => if y = x then some v else m₁ y) → News g env.locals h ((I, oI) :: nx) →
      wpAny (model prog w) A (execs body env) (TurnEnd g env.locals (J (i + 1)) I oI { s with heap := h, toks := tk } Q) E { s with heap := h, toks := tk })
    (done : ∀ m₁ nx h tk, J vs.length m₁ nx → Fr g env.locals h m₁ → News g env.locals h nx → Q .next { s with heap := h, toks := tk }) :
    wpAny (model prog w) A (pyIter (.ref l)) (fun it s₂ => LoopAtV prog w A g env x body Q E it s₂) E s :=
  hl.elim (fun hl => tup_loop J hh hl F N h0 turn done) (fun hl => lst_loop J hh hl F N h0 turn done)

/-- a for over a list of the ledger, which the turns leave as it is -/
theorem led_loop {l : Addr} {vs : List Value} {n : Nat} {m₀ : Str → Option Value} {news : List (Addr × Obj)} (J : Nat → (Str → Option Value) → List (Addr × Obj) → Prop)
    (hh : A.handled = none) (F : Fr g env.locals s.heap m₀) (N : News g env.locals s.heap news) (hl : (l, lstO vs n) ∈ news) (hJ : ∀ i m nx, J i m nx → (l, lstO vs n) ∈ nx) (h0 : J 0 m₀ news)
    (turn : ∀ i v m₁ nx h tk I oI, vs[i]? = some v → J i m₁ nx → (∀ p ∈ nx, p.1 ≠ I) → Fr g env.locals h (fun y => if y = x then some v else m₁ y) → News g env.locals h ((I, oI) :: nx) →
      wpAny (model prog w) A (execs body env) (TurnEnd g env.locals (J (i + 1)) I oI { s with heap := h, toks := tk } Q) E { s with heap := h, toks := tk })
    (done : ∀ m₁ nx h tk, J vs.length m₁ nx → Fr g env.locals h m₁ → News g env.locals h nx → Q .next { s with heap := h, toks := tk }) :
    wpAny (model prog w) A (pyIter (.ref l)) (fun it s₂ => LoopAtV prog w A g env x body Q E it s₂) E s := by
  have hl' : s.heap.get? l = some (lstO vs n) := (N _ hl).1
  obtain ⟨h1, h2, h3⟩ := seq_facts F hl' (N _ hl).2.1
  have hL : s.heap.IsList l vs.toArray := ⟨_, hl', rfl, n, rfl⟩
  refine wpAny_pyIter_list hL ?_
  refine loopV_of [(l, lstO vs n)] J (Walks.list hh _ l h1 vs.toArray) (fun b hb => ?_) (fun i m nx j p hp => by rw [List.mem_singleton.mp hp]; exact hJ i m nx j) (fun i h st => by obtain ⟨o, e, _⟩ := st.1; exact ⟨o, e⟩) ⟨⟨_, Heap.get?_push_size _ rfl, rfl, rfl⟩, hL.push _⟩ h2 h3
    (fun p hp => Nat.ne_of_lt (Heap.lt_size (N p hp).1)) (F.push _) (fun p hp => ⟨Heap.get?_push_of_some _ (N p hp).1, (N p hp).2⟩) h0 (fun i v m₁ nx h tk oI _ hP => turn i v m₁ nx h tk _ oI (by simpa using hP)) (by simpa using done)
  rcases List.mem_cons.mp hb with e | hb
  · exact .inl e
  · exact .inr (.inr ⟨_, by rw [List.mem_singleton.mp hb]; exact .head _⟩)

/-- a for over a range from 0 -/
theorem rng_loop {r : Addr} {b₀ : Int} {t₀ u₀ v₀ : Tok} {n : Nat} {m₀ : Str → Option Value} {news : List (Addr × Obj)} (J : Nat → (Str → Option Value) → List (Addr × Obj) → Prop)
    (hh : A.handled = none) (hr : IsRange s.heap r 0 b₀ 1 t₀ u₀ v₀) (hsmall : Builtin.Range.small 0 b₀ 1 = true) (hn : Builtin.Range.rangeSize 0 b₀ 1 = (n : Int)) (F : Fr g env.locals s.heap m₀) (N : News g env.locals s.heap news) (h0 : J 0 m₀ news)
    (turn : ∀ i t m₁ nx h tk I oI, i < n → J i m₁ nx → (∀ p ∈ nx, p.1 ≠ I) → Fr g env.locals h (fun y => if y = x then some (.int (i : Int) t) else m₁ y) → News g env.locals h ((I, oI) :: nx) →
      wpAny (model prog w) A (execs body env) (TurnEnd g env.locals (J (i + 1)) I oI { s with heap := h, toks := tk } Q) E { s with heap := h, toks := tk })
    (done : ∀ m₁ nx h tk, J n m₁ nx → Fr g env.locals h m₁ → News g env.locals h nx → Q .next { s with heap := h, toks := tk }) :
    wpAny (model prog w) A (pyIter (.ref r)) (fun it s₂ => LoopAtV prog w A g env x body Q E it s₂) E s := by
  refine wpAny_pyIter_range hr hsmall ?_
  have W : Walks prog w A s.heap.objs.size [s.heap.objs.size] [s.heap.objs.size] n (fun i v => ∃ t, v = .int (0 + i * 1) t)
      (fun i h => IsRangeIter h s.heap.objs.size (0 + (i : Nat) * 1) ((n : Int) - (i : Nat)) 1) := Walks.range hh _ 0 1 n
  refine loopV_of [] J W (fun b hb => .inl (List.mem_singleton.mp hb)) (fun _ _ _ _ _ hp => nomatch hp) (fun i h st => ⟨_, st⟩) ?_ ?_ (next_is_new F)
    (fun p hp => Nat.ne_of_lt (Heap.lt_size (N p hp).1)) (F.push _) (fun p hp => ⟨Heap.get?_push_of_some _ (N p hp).1, (N p hp).2⟩) h0 (fun i v m₁ nx h tk oI hi hP => ?_) done
  · show IsRangeIter _ _ _ _ _
    rw [hn]; simpa using Heap.get?_push_size _ rfl
  · intro hm
    exact absurd F.ns.lt ((List.mem_singleton.mp hm) ▸ Nat.lt_irrefl _)
  · obtain ⟨t, rfl⟩ := hP
    rw [Int.zero_add, Int.mul_one]
    exact turn i t m₁ nx h tk _ oI hi
end

local macro_rules | `(tactic| walk_at "ENTER") => `(tactic| ((case ko => first | exact own_one (by assumption) (by assumption) | exact List.forall_mem_nil _); (case k6 => k_is); (case k7 => k_is); (case k8 => exact Room.depth (by assumption)); (case k9 => exact BindsTo.of_eq rfl); (case c5 => decide); (case kB => exact locs rfl); (case c2 => exact rfl); (case c3 => exact rfl); (case c4 => exact rfl); k_whole))
local macro_rules | `(tactic| walk_at "eval ListComp") => `(tactic| (k_here; k_dflt (refine' idx_ListComp_K ?F ?N ?hm ?h1 ?h2 ?h3 ?hz ?hh ?_ ?hk ?hx; (case F => k_asm); (case N => k_asm); (case hm => exact rfl); (case h1 => assumption); (case h2 => assumption); (case h3 => assumption); (case hz => assumption); (case hh => exact rfl); (case hk => exact rfl); (case hx => exact rfl)); intro l' ys' k' h' tk' F' N' l1 i1 z1))
local macro_rules | `(tactic| walk_at "exec Assign cons ListComp") => `(tactic| (k_here; k_dflt (refine' idx_Assign_K ?F ?N ?hm ?h1 ?h2 ?h3 ?hz ?hh ?_ ?hs ?hk ?hx ?hy; (case F => k_asm); (case N => k_asm); (case hm => exact rfl); (case h1 => assumption); (case h2 => assumption); (case h3 => assumption); (case hz => assumption); (case hh => exact rfl); (case hs => with_unfolding_all rfl); (case hk => exact rfl); (case hx => exact rfl); (case hy => exact rfl)); intro l' ys' k' h' tk' F' N' l1 i1 z1))
local macro_rules | `(tactic| walk_at "subscriptTail") => `(tactic| (k_here; (with_reducible show wpAny _ _ (subscriptTail _ _ (Value.ref _) (Value.int _ _)) _ _ _); k_dflt (refine' base_item ?F ?h1 ?a ?b ?c ?d ?_; (case F => k_asm); (case h1 => assumption); (case a => decide); (case b => decide); (case c => rfl); (case d => rfl); k_whole)))
local macro_rules | `(tactic| walk_at "compareOp NotEq ref ref") => `(tactic| (k_here; k_dflt (refine' ne_nil_K ?F ?N ?h1 ?h2 ?hu ?_; (case F => k_asm); (case N => k_asm); (case h1 => assumption); (case h2 => k_mem); (case hu => exact Room.units3 (by assumption)))))
local macro_rules | `(tactic| walk_at "SIZE") => `(tactic| ((try simp only [PySem.sizeLine_eq, List.length_cons, List.length_nil, List.length_append, List.length_map, List.size_toArray]); omega))
local macro_rules | `(tactic| walk_at "binaryOp Add ref ref") => `(tactic| (k_here; (with_reducible show wpAny _ _ (binaryOp _ (Value.ref _) (Value.ref _)) _ _ _); k_dflt (refine' kmk_add_ints ?F ?N ?a ?b ?i ?j ?_ ?z; (case F => k_asm); (case N => k_asm); (case a => kmk_list); (case b => kmk_list); (case i => l_ints); (case j => l_ints); (case z => walk_at "SIZE")); intro D' ws' h' F' N' l1 hI'; (try k_lt l1); (try k_sweep)))
local macro_rules | `(tactic| walk_at "GO") => `(tactic| ((try k_unmd); (try dsimp only); (try k_fold); k_steps))
local macro_rules | `(tactic| walk_at "eval Name") => `(tactic| (k_here; (with_reducible show wpAny _ _ (eval (Expr.Name _ _) (envOf _ _ _ _ _)) _ _ _); k_dflt (refine' ld ?k1 ?k2 ?_; (case k1 => k_asm); (case k2 => first | exact rfl | assumption); k_whole)))
local macro_rules | `(tactic| walk_at "ENTERC") => `(tactic| ((case ko => first | exact own_one (by assumption) (by assumption) | exact List.forall_mem_nil _); (case k6 => k_is); (case k7 => k_is); (case k8 => exact Room.depth (by assumption)); (case k9 => exact BindsTo.of_eq rfl); (case kB => exact rfl); (case kD => decide +kernel); (case c2 => exact rfl); (case c3 => exact rfl); (case c4 => exact rfl); k_whole))

local macro_rules | `(tactic| walk_at "call ref") => `(tactic| (k_here; refine Stop.of ?_))

theorem place_ok {w : World} {mean : ExcName → Option Value} {mg mb : Str → Option Value} {g₀ : Heap} (X : (Mine.K w.params).In g₀) (T : Top Mine.view (looseW Mine.view []) mean mg mb g₀)
    {dp un : Nat} {fr : Option (List Env)} {gd : Option (List Code)} {s : Shared} {Q E : Value → Shared → Prop} {v : Value} {P : Place}
    (hr : Room dp un 1) (hk : g₀.StaysIn s.heap) (hI : Is (At s.heap) v P.d) (hz : P.steps.length ≤ 64)
    (post : ∀ a vs n h' tk', s.heap.StaysIn h' → s.heap.get? a = none → h'.get? a = some (lstO vs n) → IntsAre vs P.set → Q (.ref a) { s with heap := h', toks := tk' }) :
    wpAny (model PySem.Challenge.rw_xm0583_01.row.prog w) (Around.mk none dp fr gd un) (call (.ref 98) [v]) Q E s := by
  w_top off
  revert X
  k_fill
  intro X
  k_dflt (refine' enter [] X T hk ?ko ?k6 ?k7 ?k8 ?k9 ?kB ?_ ?c2 ?c3 ?c4 ?c5)
  walk_at "ENTER"
  clear X T
  intro g L h tk F N X T hold hL
  have hI' : Is (At g) v P.d := hI.mono fun a o e => hold a o (fun q hq => nomatch hq) e
  cases hI' with | tup p1 p2 => cases p2 with | cons p3 p4 => cases p4 with | cons p5 p6 => cases p6; cases p3; cases p5 with | tup p7 p8 =>
  walk_at "GO"
  · show Q _ _
    refine post _ _ _ _ _ (Old.stays hold (by assumption)) (Old.fresh hold (by assumption) (by k_mem)) (News.get (by assumption) (by k_mem)) ?_
    have e : P.steps ≠ [] := fun e => by
      have := p8.length
      rw [e] at this
      exact absurd (List.length_eq_zero_iff.mp this) (by assumption)
    unfold Place.set Place.idx
    rw [if_neg e]
    assumption
  · show Q _ _
    refine post _ _ _ _ _ (Old.stays hold (by assumption)) (Old.fresh hold (by assumption) (by k_mem)) (News.get (by assumption) (by k_mem)) ?_
    have e : P.steps = [] := by
      have h9 := p8.length
      have h8 := Classical.not_not.mp (by assumption : ¬ (_ : List Value) ≠ [])
      rw [h8] at h9
      exact List.map_eq_nil_iff.mp (List.length_eq_zero_iff.mp h9.symm)
    unfold Place.set Place.idx
    rw [if_pos e, List.append_nil]
    assumption

theorem whole_ok {w : World} {mean : ExcName → Option Value} {mg mb : Str → Option Value} {g₀ : Heap} (X : (Mine.K w.params).In g₀) (T : Top Mine.view (looseW Mine.view []) mean mg mb g₀)
    {dp un : Nat} {fr : Option (List Env)} {gd : Option (List Code)} {s : Shared} {Q E : Value → Shared → Prop} {v : Value} {P : Place}
    (hr : Room dp un 1) (hk : g₀.StaysIn s.heap) (hI : Is (At s.heap) v P.d) (hz : P.steps.length ≤ 64)
    (post : ∀ a vs n h' tk', s.heap.StaysIn h' → s.heap.get? a = none → h'.get? a = some (lstO vs n) → IntsAre vs P.whole → Q (.ref a) { s with heap := h', toks := tk' }) :
    wpAny (model PySem.Challenge.rw_xm0583_01.row.prog w) (Around.mk none dp fr gd un) (call (.ref 103) [v]) Q E s := by
  w_top off
  revert X
  k_fill
  intro X
  k_dflt (refine' enter [] X T hk ?ko ?k6 ?k7 ?k8 ?k9 ?kB ?_ ?c2 ?c3 ?c4 ?c5)
  walk_at "ENTER"
  clear X T
  intro g L h tk F N X T hold hL
  have hI' : Is (At g) v P.d := hI.mono fun a o e => hold a o (fun q hq => nomatch hq) e
  cases hI' with | tup p1 p2 => cases p2 with | cons p3 p4 => cases p4 with | cons p5 p6 => cases p6; cases p3; cases p5 with | tup p7 p8 =>
  walk_at "GO"
  · show Q _ _
    exact post _ _ _ _ _ (Old.stays hold (by assumption)) (Old.fresh hold (by assumption) (by k_mem)) (News.get (by assumption) (by k_mem)) (by assumption)

section
theorem Is.base {g h : Heap} {L : Addr} {m : Str → Option Value} {v : Value} {d : D} (F : Fr g L h m) (x : Is (At g) v d) : Is (At h) v d := x.mono F.keep
theorem Is.led {g h : Heap} {L : Addr} {l : List (Addr × Obj)} {v : Value} {d : D} (N : News g L h l) (x : Is (In l) v d) : Is (At h) v d := x.mono fun a o e => (N (a, o) e).1

theorem whole_K {w : World} {mean : ExcName → Option Value} {mg mb : Str → Option Value} {g : Heap} {dp un : Nat} {fr : Option (List Env)} {gd : Option (List Code)} {s : Shared} {Q E : Value → Shared → Prop} {v : Value} {P : Place} {L : Addr} {m : Str → Option Value} {news : List (Addr × Obj)}
    (F : Fr g L s.heap m) (N : News g L s.heap news) (X : (Mine.K w.params).In g) (T : Top Mine.view (looseW Mine.view []) mean mg mb g)
    (hr : Room dp un 1) (hI : Is (At s.heap) v P.d) (hz : P.steps.length ≤ 64)
    (post : ∀ a vs n h' tk', Fr g L h' m → News g L h' ((a, lstO vs n) :: news) → (∀ p ∈ news, p.1 ≠ a) → IntsAre vs P.whole → Q (.ref a) { s with heap := h', toks := tk' }) :
    wpAny (model PySem.Challenge.rw_xm0583_01.row.prog w) (Around.mk none dp fr gd un) (call (.ref 103) [v]) Q E s := by
  refine whole_ok X T hr F.keep hI hz fun a vs n h' tk' hs hf ha hi => ?_
  obtain ⟨F', N', off⟩ := News.keep1 F N hs hf ha
  exact post a vs n h' tk' F' N' off hi

theorem extend_K {prog : Program} {w : World} {A : Around} {E : Value → Shared → Prop} {s : Shared} {g : Heap} {L f b : Addr} {m : Str → Option Value} {news : List (Addr × Obj)} (rest : List (Addr × Obj)) {us vs : List Value} {n k : Nat} {ns ms : List Int} {Q : Value → Shared → Prop}
    (F : Fr g L s.heap m) (N : News g L s.heap news) (hf : (f, lstO us n) ∈ news) (hb : (b, lstO vs k) ∈ news) (hr : ∀ p ∈ rest, p ∈ news) (hne : ∀ p ∈ rest, p.1 ≠ f) (hi : IntsAre us ns) (hj : IntsAre vs ms) (hz : ns.length + ms.length ≤ 100000)
    (h : ∀ h' n', Fr g L h' m → News g L h' ((f, lstO (us ++ vs) n') :: rest) → IntsAre (us ++ vs) (ns ++ ms) → Q .none { s with heap := h' }) :
    wpAny (model prog w) A (call (.builtin "list.extend") [.ref f, .ref b]) Q E s := by
  have N' : News g L s.heap ([] ++ (f, lstO us n) :: rest) := fun p hp => by
    rcases List.mem_cons.mp hp with rfl | hp
    · exact N _ hf
    · exact N _ (hr p hp)
  refine extend_in_ints F N' (fun p hp => nomatch hp) hne (N _ hb).1 hi (by simpa using hj) (fun h' n' F' N' hi' => ?_) ?_
  · exact h h' n' F' (by simpa using N') (by simpa using hi')
  · have h1 := hi.length
    have h2 := hj.length
    rw [PySem.sizeLine_eq, List.size_toArray]
    omega

local macro_rules | `(tactic| walk_at "call ref") => `(tactic| (k_here; (with_reducible show wpAny _ _ (call (Value.ref 103) [_]) _ _ _); k_dflt (refine' whole_K ?F ?N ?X ?T ?r ?I ?z ?_; (case F => k_asm); (case N => k_asm); (case X => assumption); (case T => assumption); (case r => exact Room.deep (by assumption) (by decide)); (case I => exact Is.base (by assumption) (by assumption)); (case z => assumption)); intro l' ys' k' h' tk' F' N' l1 i1))

theorem operand_ok {w : World} {mean : ExcName → Option Value} {mg mb : Str → Option Value} {g₀ : Heap} (X : (Mine.K w.params).In g₀) (T : Top Mine.view (looseW Mine.view []) mean mg mb g₀)
    {dp un : Nat} {fr : Option (List Env)} {gd : Option (List Code)} {s : Shared} {Q E : Value → Shared → Prop} {a : Addr} {vs : List Value} {n : Nat} {os : List Operand}
    (hr : Room dp un 2) (hk : g₀.StaysIn s.heap) (hv : s.heap.get? a = some (tupO vs n) ∨ s.heap.get? a = some (lstO vs n)) (hI : IsAll (At s.heap) vs (os.map Operand.d)) (hz : ∀ o ∈ os, o.ok) (hl : os.length ≤ 64)
    (post : ∀ a vs n h' tk', s.heap.StaysIn h' → s.heap.get? a = none → h'.get? a = some (lstO vs n) → IntsAre vs (allReads os) → Q (.ref a) { s with heap := h', toks := tk' }) :
    wpAny (model PySem.Challenge.rw_xm0583_01.row.prog w) (Around.mk none dp fr gd un) (call (.ref 110) [.ref a]) Q E s := by
  w_top off
  revert X
  k_fill
  intro X
  k_dflt (refine' enter [] X T hk ?ko ?k6 ?k7 ?k8 ?k9 ?kB ?_ ?c2 ?c3 ?c4 ?c5)
  walk_at "ENTER"
  clear X T
  intro g L h tk F N X T hold hL
  have hI' : IsAll (At g) vs (os.map Operand.d) := hI.mono fun a o e => hold a o (fun q hq => nomatch hq) e
  have hv' : g.get? a = some (tupO vs n) ∨ g.get? a = some (lstO vs n) := hv.imp (hold _ _ (fun q hq => nomatch hq)) (hold _ _ (fun q hq => nomatch hq))
  k_with_none
  walk_at "GO"
  refine For_invVF (h₀ := g) (by assumption) (by rfl) (by rfl) ?_
  k_dflt (refine' ld ?k1 ?k2 ?_; (case k1 => k_asm); (case k2 => exact rfl))
  refine seq_loop (fun i m nx => ∃ f us n, m (Str.ofString "found") = some (.ref f) ∧ nx = [(f, lstO us n)] ∧ IntsAre us (allReads (os.take i))) rfl hv' (by assumption) (by assumption) ⟨_, [], _, rfl, rfl, .nil⟩ ?_ ?_
  · rintro i v m₁ nx h tk I oI hvi ⟨f, us, n, hm, rfl, hi⟩ off (F : Fr g L h _) (N : News g L h _)
    have off' : f ≠ I := off _ (.head _)
    obtain ⟨d, hd, hv⟩ := hI'.get i v hvi
    obtain ⟨o, ho, rfl⟩ : ∃ o, os[i]? = some o ∧ o.d = d := by simpa using hd
    have hok := hz o (List.mem_of_getElem? ho)
    have hle := allReads_le (os.take i) fun x hx => hz x (List.mem_of_mem_take hx)
    have hle2 : (os.take i).length ≤ os.length := by rw [List.length_take]; omega
    rw [allReads_take os i o ho]
    cases o with
    | copy p =>
      have hle3 := p.whole_le hok
      obtain ⟨b, v0, v1, n1, rfl, p1, p3, p5⟩ := hv.tup2
      obtain ⟨t, rfl⟩ := p3.str'
      walk_at "GO"
      refine extend_K [(I, oI)] (by assumption) (by assumption) (by k_mem) (by k_mem) (by simp) (fun p hp => by rw [List.mem_singleton.mp hp]; exact Ne.symm off') hi (by assumption) (by omega) fun h' n' F' N' hi' => ?_
      k_steps
      exact TurnEnd.intro [(f, _)] (by assumption) (News.pick (by assumption) (by k_mem) (News.pick (by assumption) (by k_mem) News.nil)) (fun p hp => by rw [List.mem_singleton.mp hp]; exact off') ⟨f, _, _, by exact hm, rfl, hi'⟩
    | move p =>
      have hle3 := p.whole_le hok
      obtain ⟨b, v0, v1, n1, rfl, p1, p3, p5⟩ := hv.tup2
      obtain ⟨t, rfl⟩ := p3.str'
      walk_at "GO"
      refine extend_K [(I, oI)] (by assumption) (by assumption) (by k_mem) (by k_mem) (by simp) (fun p hp => by rw [List.mem_singleton.mp hp]; exact Ne.symm off') hi (by assumption) (by omega) fun h' n' F' N' hi' => ?_
      k_steps
      exact TurnEnd.intro [(f, _)] (by assumption) (News.pick (by assumption) (by k_mem) (News.pick (by assumption) (by k_mem) News.nil)) (fun p hp => by rw [List.mem_singleton.mp hp]; exact off') ⟨f, _, _, by exact hm, rfl, hi'⟩
    | const k =>
      obtain ⟨b, v0, v1, v2, n1, rfl, p1, p3, p5, p6⟩ := hv.tup3
      obtain ⟨t, rfl⟩ := p3.str'
      walk_at "GO"
      exact TurnEnd.intro [(f, _)] (by assumption) (News.pick (by assumption) (by k_mem) (News.pick (by assumption) (by k_mem) News.nil)) (fun p hp => by rw [List.mem_singleton.mp hp]; exact off') ⟨f, _, _, by exact hm, rfl, by rw [show (Operand.const k).reads = [] from rfl, List.append_nil]; exact hi⟩
  · rintro m₁ nx h tk ⟨f, us, n, hm, rfl, hi⟩ (F : Fr g L h _) (N : News g L h _)
    walk_at "GO"
    show Q _ _
    have e : vs.length = os.length := by simpa using hI.length
    rw [e, List.take_length] at hi
    exact post _ _ _ _ _ (Old.stays hold (by assumption)) (Old.fresh hold (by assumption) (by k_mem)) (News.get (by assumption) (by k_mem)) hi
end

section
local macro_rules | `(tactic| walk_at "call type:list") => `(tactic| (k_here; (with_reducible show wpAny _ _ (call (Value.type _) [Value.ref _]) _ _ _); k_dflt (refine' list_copyKT ?F ?N ?t ?_ ?z; (case F => k_asm); (case N => k_asm); (case t => exact isTup_of' (Fr.keep (by k_asm) _ _ (by assumption))); (case z => walk_at "SIZE")); intro D' c' h' F' N' l1; (try k_lt l1); (try k_sweep)))
local macro_rules | `(tactic| walk_at "POST") => `(tactic| (show Q _ _; refine post _ _ _ _ _ (Old.stays hold (by assumption)) (Old.fresh hold (by assumption) (by k_mem)) (News.get (by assumption) (by k_mem)) ?_))
theorem IsAll.led {g h : Heap} {vs : List Value} {ds : List D} (H : Old [] h g) (H' : ∀ a o, g.get? a = some o → h.get? a = some o) (x : IsAll (At g) vs ds) : IsAll (At h) vs ds := x.mono H'

theorem ops_ok {w : World} {mean : ExcName → Option Value} {mg mb : Str → Option Value} {g₀ : Heap} (X : (Mine.K w.params).In g₀) (T : Top Mine.view (looseW Mine.view []) mean mg mb g₀)
    {dp un : Nat} {fr : Option (List Env)} {gd : Option (List Code)} {s : Shared} {Q E : Value → Shared → Prop} {v : Value} {R : Rvalue}
    (hr : Room dp un 1) (hk : g₀.StaysIn s.heap) (hI : Is (At s.heap) v R.d) (hn : (∀ p, R ≠ .ref p) ∧ ∀ p, R ≠ .discr p) (hl : R.ops.length ≤ 64)
    (post : ∀ a vs n h' tk', s.heap.StaysIn h' → s.heap.get? a = none → h'.get? a = some (lstO vs n) → IsAll (At h') vs (R.ops.map Operand.d) → Q (.ref a) { s with heap := h', toks := tk' }) :
    wpAny (model PySem.Challenge.rw_xm0583_01.row.prog w) (Around.mk none dp fr gd un) (call (.ref 93) [v]) Q E s := by
  w_top off
  revert X
  k_fill
  intro X
  k_dflt (refine' enter [] X T hk ?ko ?k6 ?k7 ?k8 ?k9 ?kB ?_ ?c2 ?c3 ?c4 ?c5)
  walk_at "ENTER"
  clear X T
  intro g L h tk F N X T hold hL
  have hI' : Is (At g) v R.d := hI.mono fun a o e => hold a o (fun q hq => nomatch hq) e
  k_with_none
  have fin : ∀ a vs n h' tk' m' news, Fr g L h' m' → News g L h' news → (a, lstO vs n) ∈ news → IsAll (At g) vs (R.ops.map Operand.d) → Q (.ref a) { s with heap := h', toks := tk' } :=
    fun a vs n h' tk' m' news F N hm hi => post a vs n h' tk' (Old.stays hold F) (Old.fresh hold N hm) (News.get N hm) (hi.mono F.keep)
  cases R with
  | ref p => exact absurd rfl (hn.1 p)
  | discr p => exact absurd rfl (hn.2 p)
  | use x =>
    obtain ⟨b, v0, v1, n1, rfl, p1, p3, p5⟩ := hI'.tup2
    obtain ⟨t, rfl⟩ := p3.str'
    walk_at "GO"
    exact fin _ _ _ _ _ _ _ (by assumption) (by assumption) (by k_mem) (.cons p5 .nil)
  | box x =>
    obtain ⟨b, v0, v1, n1, rfl, p1, p3, p5⟩ := hI'.tup2
    obtain ⟨t, rfl⟩ := p3.str'
    walk_at "GO"
    exact fin _ _ _ _ _ _ _ (by assumption) (by assumption) (by k_mem) (.cons p5 .nil)
  | cast x =>
    obtain ⟨b, v0, v1, v2, n1, rfl, p1, p3, p5, p6⟩ := hI'.tup3
    obtain ⟨t, rfl⟩ := p3.str'
    walk_at "GO"
    exact fin _ _ _ _ _ _ _ (by assumption) (by assumption) (by k_mem) (.cons p5 .nil)
  | unary x =>
    obtain ⟨b, v0, v1, v2, n1, rfl, p1, p3, p5, p6⟩ := hI'.tup3
    obtain ⟨t, rfl⟩ := p3.str'
    walk_at "GO"
    exact fin _ _ _ _ _ _ _ (by assumption) (by assumption) (by k_mem) (.cons p6 .nil)
  | binary x y =>
    obtain ⟨b, v0, v1, v2, v3, n1, rfl, p1, p3, p5, p6, p7⟩ := hI'.tup4
    obtain ⟨t, rfl⟩ := p3.str'
    walk_at "GO"
    exact fin _ _ _ _ _ _ _ (by assumption) (by assumption) (by k_mem) (.cons p6 (.cons p7 .nil))
  | checked x y =>
    obtain ⟨b, v0, v1, v2, v3, n1, rfl, p1, p3, p5, p6, p7⟩ := hI'.tup4
    obtain ⟨t, rfl⟩ := p3.str'
    walk_at "GO"
    exact fin _ _ _ _ _ _ _ (by assumption) (by assumption) (by k_mem) (.cons p6 (.cons p7 .nil))
  | tup os =>
    obtain ⟨b, v0, v1, n1, rfl, p1, p3, p5⟩ := hI'.tup2
    obtain ⟨t, rfl⟩ := p3.str'
    obtain ⟨c, vs, n2, rfl, p6, p7⟩ := p5.tup'
    have hlen : vs.length ≤ 64 := by rw [p7.length, List.length_map]; exact hl
    walk_at "GO"
    exact fin _ _ _ _ _ _ _ (by assumption) (by assumption) (by k_mem) p7
  | arr os =>
    obtain ⟨b, v0, v1, n1, rfl, p1, p3, p5⟩ := hI'.tup2
    obtain ⟨t, rfl⟩ := p3.str'
    obtain ⟨c, vs, n2, rfl, p6, p7⟩ := p5.tup'
    have hlen : vs.length ≤ 64 := by rw [p7.length, List.length_map]; exact hl
    walk_at "GO"
    exact fin _ _ _ _ _ _ _ (by assumption) (by assumption) (by k_mem) p7
  | adt os =>
    obtain ⟨b, v0, v1, v2, v3, n1, rfl, p1, p3, p4, p5, p8⟩ := hI'.tup4
    obtain ⟨t, rfl⟩ := p3.str'
    obtain ⟨c, vs, n2, rfl, p6, p7⟩ := p8.tup'
    have hlen : vs.length ≤ 64 := by rw [p7.length, List.length_map]; exact hl
    walk_at "GO"
    exact fin _ _ _ _ _ _ _ (by assumption) (by assumption) (by k_mem) p7
end

section
theorem place_K {w : World} {mean : ExcName → Option Value} {mg mb : Str → Option Value} {g : Heap} {dp un : Nat} {fr : Option (List Env)} {gd : Option (List Code)} {s : Shared} {Q E : Value → Shared → Prop} {v : Value} {P : Place} {L : Addr} {m : Str → Option Value} {news : List (Addr × Obj)}
    (F : Fr g L s.heap m) (N : News g L s.heap news) (X : (Mine.K w.params).In g) (T : Top Mine.view (looseW Mine.view []) mean mg mb g)
    (hr : Room dp un 1) (hI : Is (At s.heap) v P.d) (hz : P.steps.length ≤ 64)
    (post : ∀ a vs n h' tk', Fr g L h' m → News g L h' ((a, lstO vs n) :: news) → (∀ p ∈ news, p.1 ≠ a) → IntsAre vs P.set → Q (.ref a) { s with heap := h', toks := tk' }) :
    wpAny (model PySem.Challenge.rw_xm0583_01.row.prog w) (Around.mk none dp fr gd un) (call (.ref 98) [v]) Q E s := by
  refine place_ok X T hr F.keep hI hz fun a vs n h' tk' hs hf ha hi => ?_
  obtain ⟨F', N', off⟩ := News.keep1 F N hs hf ha
  exact post a vs n h' tk' F' N' off hi

theorem operand_K {w : World} {mean : ExcName → Option Value} {mg mb : Str → Option Value} {g : Heap} {dp un : Nat} {fr : Option (List Env)} {gd : Option (List Code)} {s : Shared} {Q E : Value → Shared → Prop} {b : Addr} {vs : List Value} {n : Nat} (os : List Operand) {L : Addr} {m : Str → Option Value} {news : List (Addr × Obj)}
    (F : Fr g L s.heap m) (N : News g L s.heap news) (X : (Mine.K w.params).In g) (T : Top Mine.view (looseW Mine.view []) mean mg mb g)
    (hr : Room dp un 2) (hv : s.heap.get? b = some (tupO vs n) ∨ s.heap.get? b = some (lstO vs n)) (hI : IsAll (At s.heap) vs (os.map Operand.d)) (hz : ∀ o ∈ os, o.ok) (hl : os.length ≤ 64)
    (post : ∀ a vs n h' tk', Fr g L h' m → News g L h' ((a, lstO vs n) :: news) → (∀ p ∈ news, p.1 ≠ a) → IntsAre vs (allReads os) → Q (.ref a) { s with heap := h', toks := tk' }) :
    wpAny (model PySem.Challenge.rw_xm0583_01.row.prog w) (Around.mk none dp fr gd un) (call (.ref 110) [.ref b]) Q E s := by
  refine operand_ok X T hr F.keep hv hI hz hl fun a vs n h' tk' hs hf ha hi => ?_
  obtain ⟨F', N', off⟩ := News.keep1 F N hs hf ha
  exact post a vs n h' tk' F' N' off hi

theorem ops_K {w : World} {mean : ExcName → Option Value} {mg mb : Str → Option Value} {g : Heap} {dp un : Nat} {fr : Option (List Env)} {gd : Option (List Code)} {s : Shared} {Q E : Value → Shared → Prop} {v : Value} (R : Rvalue) {L : Addr} {m : Str → Option Value} {news : List (Addr × Obj)}
    (F : Fr g L s.heap m) (N : News g L s.heap news) (X : (Mine.K w.params).In g) (T : Top Mine.view (looseW Mine.view []) mean mg mb g)
    (hr : Room dp un 1) (hI : Is (At s.heap) v R.d) (hn : (∀ p, R ≠ .ref p) ∧ ∀ p, R ≠ .discr p) (hl : R.ops.length ≤ 64)
    (post : ∀ a vs n h' tk', Fr g L h' m → News g L h' ((a, lstO vs n) :: news) → (∀ p ∈ news, p.1 ≠ a) → IsAll (At h') vs (R.ops.map Operand.d) → Q (.ref a) { s with heap := h', toks := tk' }) :
    wpAny (model PySem.Challenge.rw_xm0583_01.row.prog w) (Around.mk none dp fr gd un) (call (.ref 93) [v]) Q E s := by
  refine ops_ok X T hr F.keep hI hn hl fun a vs n h' tk' hs hf ha hi => ?_
  obtain ⟨F', N', off⟩ := News.keep1 F N hs hf ha
  exact post a vs n h' tk' F' N' off hi

local macro_rules | `(tactic| walk_at "call ref") => `(tactic| (k_here; (with_reducible show wpAny _ _ (call (Value.ref 103) [_]) _ _ _); k_dflt (refine' whole_K ?F ?N ?X ?T ?r ?I ?z ?_; (case F => k_asm); (case N => k_asm); (case X => assumption); (case T => assumption); (case r => exact Room.deep (by assumption) (by decide)); (case I => exact Is.base (by assumption) (by assumption)); (case z => assumption)); intro l' ys' k' h' tk' F' N' l1 i1))
local macro_rules | `(tactic| walk_at "call ref") => `(tactic| (k_here; (with_reducible show wpAny _ _ (call (Value.ref 98) [_]) _ _ _); k_dflt (refine' place_K ?F ?N ?X ?T ?r ?I ?z ?_; (case F => k_asm); (case N => k_asm); (case X => assumption); (case T => assumption); (case r => exact Room.deep (by assumption) (by decide)); (case I => exact Is.base (by assumption) (by assumption)); (case z => assumption)); intro l' ys' k' h' tk' F' N' l1 i1))

theorem rvalue_ok {w : World} {mean : ExcName → Option Value} {mg mb : Str → Option Value} {g₀ : Heap} (X : (Mine.K w.params).In g₀) (T : Top Mine.view (looseW Mine.view []) mean mg mb g₀)
    {dp un : Nat} {fr : Option (List Env)} {gd : Option (List Code)} {s : Shared} {Q E : Value → Shared → Prop} {v : Value} {R : Rvalue}
    (hr : Room dp un 3) (hk : g₀.StaysIn s.heap) (hI : Is (At s.heap) v R.d) (hok : R.ok)
    (post : ∀ a vs n h' tk', s.heap.StaysIn h' → s.heap.get? a = none → h'.get? a = some (lstO vs n) → IntsAre vs R.reads → Q (.ref a) { s with heap := h', toks := tk' }) :
    wpAny (model PySem.Challenge.rw_xm0583_01.row.prog w) (Around.mk none dp fr gd un) (call (.ref 117) [v]) Q E s := by
  w_top off
  revert X
  k_fill
  intro X
  k_dflt (refine' enter [] X T hk ?ko ?k6 ?k7 ?k8 ?k9 ?kB ?_ ?c2 ?c3 ?c4 ?c5)
  walk_at "ENTER"
  clear X T
  intro g L h tk F N X T hold hL
  have hI' : Is (At g) v R.d := hI.mono fun a o e => hold a o (fun q hq => nomatch hq) e
  k_with_none
  have fin : ∀ a vs n h' tk' m' news, Fr g L h' m' → News g L h' news → (a, lstO vs n) ∈ news → IntsAre vs R.reads → Q (.ref a) { s with heap := h', toks := tk' } :=
    fun a vs n h' tk' m' news F N hm hi => post a vs n h' tk' (Old.stays hold F) (Old.fresh hold N hm) (News.get N hm) hi
  cases R with
  | ref p =>
    obtain ⟨b, v0, v1, v2, v3, n1, rfl, p1, p3, p5, p6, p7⟩ := hI'.tup4
    obtain ⟨t, rfl⟩ := p3.str'
    have hz : p.steps.length ≤ 64 := hok
    walk_at "GO"
    exact fin _ _ _ _ _ _ _ (by assumption) (by assumption) (by k_mem) (by assumption)
  | discr p =>
    obtain ⟨b, v0, v1, n1, rfl, p1, p3, p5⟩ := hI'.tup2
    obtain ⟨t, rfl⟩ := p3.str'
    have hz : p.steps.length ≤ 64 := hok
    walk_at "GO"
    exact fin _ _ _ _ _ _ _ (by assumption) (by assumption) (by k_mem) (by assumption)
  | use x =>
    obtain ⟨b, v0, v1, n1, rfl, p1, p3, p5⟩ := hI'.tup2
    obtain ⟨t, rfl⟩ := p3.str'
    walk_at "GO"
    refine Stop.go (ops_K (.use x) (by assumption) (by assumption) (by assumption) (by assumption) (Room.deep hr (by decide)) (Is.base (by assumption) hI') ⟨(fun p e => nomatch e), (fun p e => nomatch e)⟩ hok.2 fun a vs n h' tk' F' N' off hi => ?_)
    walk_at "GO"
    refine Stop.go (operand_K _ (by assumption) (by assumption) (by assumption) (by assumption) (Room.deep hr (by decide)) (.inr (News.get (by assumption) (by k_mem))) hi hok.1 hok.2 fun a vs n h' tk' F' N' off hi => ?_)
    walk_at "GO"
    exact fin _ _ _ _ _ _ _ (by assumption) (by assumption) (by k_mem) hi
  | box x =>
    obtain ⟨b, v0, v1, n1, rfl, p1, p3, p5⟩ := hI'.tup2
    obtain ⟨t, rfl⟩ := p3.str'
    walk_at "GO"
    refine Stop.go (ops_K (.box x) (by assumption) (by assumption) (by assumption) (by assumption) (Room.deep hr (by decide)) (Is.base (by assumption) hI') ⟨(fun p e => nomatch e), (fun p e => nomatch e)⟩ hok.2 fun a vs n h' tk' F' N' off hi => ?_)
    walk_at "GO"
    refine Stop.go (operand_K _ (by assumption) (by assumption) (by assumption) (by assumption) (Room.deep hr (by decide)) (.inr (News.get (by assumption) (by k_mem))) hi hok.1 hok.2 fun a vs n h' tk' F' N' off hi => ?_)
    walk_at "GO"
    exact fin _ _ _ _ _ _ _ (by assumption) (by assumption) (by k_mem) hi
  | cast x =>
    obtain ⟨b, v0, v1, v2, n1, rfl, p1, p3, p5, p6⟩ := hI'.tup3
    obtain ⟨t, rfl⟩ := p3.str'
    walk_at "GO"
    refine Stop.go (ops_K (.cast x) (by assumption) (by assumption) (by assumption) (by assumption) (Room.deep hr (by decide)) (Is.base (by assumption) hI') ⟨(fun p e => nomatch e), (fun p e => nomatch e)⟩ hok.2 fun a vs n h' tk' F' N' off hi => ?_)
    walk_at "GO"
    refine Stop.go (operand_K _ (by assumption) (by assumption) (by assumption) (by assumption) (Room.deep hr (by decide)) (.inr (News.get (by assumption) (by k_mem))) hi hok.1 hok.2 fun a vs n h' tk' F' N' off hi => ?_)
    walk_at "GO"
    exact fin _ _ _ _ _ _ _ (by assumption) (by assumption) (by k_mem) hi
  | unary x =>
    obtain ⟨b, v0, v1, v2, n1, rfl, p1, p3, p5, p6⟩ := hI'.tup3
    obtain ⟨t, rfl⟩ := p3.str'
    walk_at "GO"
    refine Stop.go (ops_K (.unary x) (by assumption) (by assumption) (by assumption) (by assumption) (Room.deep hr (by decide)) (Is.base (by assumption) hI') ⟨(fun p e => nomatch e), (fun p e => nomatch e)⟩ hok.2 fun a vs n h' tk' F' N' off hi => ?_)
    walk_at "GO"
    refine Stop.go (operand_K _ (by assumption) (by assumption) (by assumption) (by assumption) (Room.deep hr (by decide)) (.inr (News.get (by assumption) (by k_mem))) hi hok.1 hok.2 fun a vs n h' tk' F' N' off hi => ?_)
    walk_at "GO"
    exact fin _ _ _ _ _ _ _ (by assumption) (by assumption) (by k_mem) hi
  | binary x y =>
    obtain ⟨b, v0, v1, v2, v3, n1, rfl, p1, p3, p5, p6, p7⟩ := hI'.tup4
    obtain ⟨t, rfl⟩ := p3.str'
    walk_at "GO"
    refine Stop.go (ops_K (.binary x y) (by assumption) (by assumption) (by assumption) (by assumption) (Room.deep hr (by decide)) (Is.base (by assumption) hI') ⟨(fun p e => nomatch e), (fun p e => nomatch e)⟩ hok.2 fun a vs n h' tk' F' N' off hi => ?_)
    walk_at "GO"
    refine Stop.go (operand_K _ (by assumption) (by assumption) (by assumption) (by assumption) (Room.deep hr (by decide)) (.inr (News.get (by assumption) (by k_mem))) hi hok.1 hok.2 fun a vs n h' tk' F' N' off hi => ?_)
    walk_at "GO"
    exact fin _ _ _ _ _ _ _ (by assumption) (by assumption) (by k_mem) hi
  | checked x y =>
    obtain ⟨b, v0, v1, v2, v3, n1, rfl, p1, p3, p5, p6, p7⟩ := hI'.tup4
    obtain ⟨t, rfl⟩ := p3.str'
    walk_at "GO"
    refine Stop.go (ops_K (.checked x y) (by assumption) (by assumption) (by assumption) (by assumption) (Room.deep hr (by decide)) (Is.base (by assumption) hI') ⟨(fun p e => nomatch e), (fun p e => nomatch e)⟩ hok.2 fun a vs n h' tk' F' N' off hi => ?_)
    walk_at "GO"
    refine Stop.go (operand_K _ (by assumption) (by assumption) (by assumption) (by assumption) (Room.deep hr (by decide)) (.inr (News.get (by assumption) (by k_mem))) hi hok.1 hok.2 fun a vs n h' tk' F' N' off hi => ?_)
    walk_at "GO"
    exact fin _ _ _ _ _ _ _ (by assumption) (by assumption) (by k_mem) hi
  | tup os =>
    obtain ⟨b, v0, v1, n1, rfl, p1, p3, p5⟩ := hI'.tup2
    obtain ⟨t, rfl⟩ := p3.str'
    walk_at "GO"
    refine Stop.go (ops_K (.tup os) (by assumption) (by assumption) (by assumption) (by assumption) (Room.deep hr (by decide)) (Is.base (by assumption) hI') ⟨(fun p e => nomatch e), (fun p e => nomatch e)⟩ hok.2 fun a vs n h' tk' F' N' off hi => ?_)
    walk_at "GO"
    refine Stop.go (operand_K _ (by assumption) (by assumption) (by assumption) (by assumption) (Room.deep hr (by decide)) (.inr (News.get (by assumption) (by k_mem))) hi hok.1 hok.2 fun a vs n h' tk' F' N' off hi => ?_)
    walk_at "GO"
    exact fin _ _ _ _ _ _ _ (by assumption) (by assumption) (by k_mem) hi
  | arr os =>
    obtain ⟨b, v0, v1, n1, rfl, p1, p3, p5⟩ := hI'.tup2
    obtain ⟨t, rfl⟩ := p3.str'
    walk_at "GO"
    refine Stop.go (ops_K (.arr os) (by assumption) (by assumption) (by assumption) (by assumption) (Room.deep hr (by decide)) (Is.base (by assumption) hI') ⟨(fun p e => nomatch e), (fun p e => nomatch e)⟩ hok.2 fun a vs n h' tk' F' N' off hi => ?_)
    walk_at "GO"
    refine Stop.go (operand_K _ (by assumption) (by assumption) (by assumption) (by assumption) (Room.deep hr (by decide)) (.inr (News.get (by assumption) (by k_mem))) hi hok.1 hok.2 fun a vs n h' tk' F' N' off hi => ?_)
    walk_at "GO"
    exact fin _ _ _ _ _ _ _ (by assumption) (by assumption) (by k_mem) hi
  | adt os =>
    obtain ⟨b, v0, v1, v2, v3, n1, rfl, p1, p3, p5, p6, p7⟩ := hI'.tup4
    obtain ⟨t, rfl⟩ := p3.str'
    walk_at "GO"
    refine Stop.go (ops_K (.adt os) (by assumption) (by assumption) (by assumption) (by assumption) (Room.deep hr (by decide)) (Is.base (by assumption) hI') ⟨(fun p e => nomatch e), (fun p e => nomatch e)⟩ hok.2 fun a vs n h' tk' F' N' off hi => ?_)
    walk_at "GO"
    refine Stop.go (operand_K _ (by assumption) (by assumption) (by assumption) (by assumption) (Room.deep hr (by decide)) (.inr (News.get (by assumption) (by k_mem))) hi hok.1 hok.2 fun a vs n h' tk' F' N' off hi => ?_)
    walk_at "GO"
    exact fin _ _ _ _ _ _ _ (by assumption) (by assumption) (by k_mem) hi

theorem term_ok {w : World} {mean : ExcName → Option Value} {mg mb : Str → Option Value} {g₀ : Heap} (X : (Mine.K w.params).In g₀) (T : Top Mine.view (looseW Mine.view []) mean mg mb g₀)
    {dp un : Nat} {fr : Option (List Env)} {gd : Option (List Code)} {s : Shared} {Q E : Value → Shared → Prop} {v : Value} {R : Term}
    (hr : Room dp un 3) (hk : g₀.StaysIn s.heap) (hI : Is (At s.heap) v R.d) (hok : R.ok)
    (post : ∀ a vs n h' tk', s.heap.StaysIn h' → s.heap.get? a = none → h'.get? a = some (lstO vs n) → IntsAre vs R.reads → Q (.ref a) { s with heap := h', toks := tk' }) :
    wpAny (model PySem.Challenge.rw_xm0583_01.row.prog w) (Around.mk none dp fr gd un) (call (.ref 124) [v]) Q E s := by
  w_top off
  revert X
  k_fill
  intro X
  k_dflt (refine' enter [] X T hk ?ko ?k6 ?k7 ?k8 ?k9 ?kB ?_ ?c2 ?c3 ?c4 ?c5)
  walk_at "ENTER"
  clear X T
  intro g L h tk F N X T hold hL
  have hI' : Is (At g) v R.d := hI.mono fun a o e => hold a o (fun q hq => nomatch hq) e
  k_with_none
  have fin : ∀ a vs n h' tk' m' news, Fr g L h' m' → News g L h' news → (a, lstO vs n) ∈ news → IntsAre vs R.reads → Q (.ref a) { s with heap := h', toks := tk' } :=
    fun a vs n h' tk' m' news F N hm hi => post a vs n h' tk' (Old.stays hold F) (Old.fresh hold N hm) (News.get N hm) hi
  cases R with
  | goto =>
    obtain ⟨b, v0, v1, n1, rfl, p1, p3, p5⟩ := hI'.tup2
    obtain ⟨t, rfl⟩ := p3.str'
    walk_at "GO"
    exact fin _ _ _ _ _ _ _ (by assumption) (by assumption) (by k_mem) .nil
  | panic =>
    obtain ⟨b, v0, v1, n1, rfl, p1, p3, p5⟩ := hI'.tup2
    obtain ⟨t, rfl⟩ := p3.str'
    walk_at "GO"
    exact fin _ _ _ _ _ _ _ (by assumption) (by assumption) (by k_mem) .nil
  | unreachable =>
    obtain ⟨b, v0, n1, rfl, p1, p3⟩ := hI'.tup1
    obtain ⟨t, rfl⟩ := p3.str'
    walk_at "GO"
    exact fin _ _ _ _ _ _ _ (by assumption) (by assumption) (by k_mem) .nil
  | ret =>
    obtain ⟨b, v0, n1, rfl, p1, p3⟩ := hI'.tup1
    obtain ⟨t, rfl⟩ := p3.str'
    walk_at "GO"
    exact fin _ _ _ _ _ _ _ (by assumption) (by assumption) (by k_mem) (.cons 0 _ .nil)
  | drop p =>
    obtain ⟨b, v0, v1, v2, n1, rfl, p1, p3, p5, p6⟩ := hI'.tup3
    obtain ⟨t, rfl⟩ := p3.str'
    have hz : p.steps.length ≤ 64 := hok
    walk_at "GO"
    exact fin _ _ _ _ _ _ _ (by assumption) (by assumption) (by k_mem) (by assumption)
  | switch x =>
    obtain ⟨b, v0, v1, v2, v3, n1, rfl, p1, p3, p5, p6, p7⟩ := hI'.tup4
    obtain ⟨t, rfl⟩ := p3.str'
    walk_at "GO"
    refine Stop.go (operand_K [x] (by assumption) (by assumption) (by assumption) (by assumption) (Room.deep hr (by decide)) (.inr (News.get (by assumption) (by k_mem))) (.cons (Is.base (by assumption) p5) .nil) (fun o ho => by rw [List.mem_singleton.mp ho]; exact hok) (by decide : (1 : Nat) ≤ 64) fun a vs n h' tk' F' N' off hi => ?_)
    walk_at "GO"
    exact fin _ _ _ _ _ _ _ (by assumption) (by assumption) (by k_mem) (by rw [show (Term.switch x).reads = allReads [x] from (List.append_nil _).symm]; exact hi)
  | assert x =>
    obtain ⟨b, v0, v1, v2, v3, v4, n1, rfl, p1, p3, p5, p6, p7, p8⟩ := hI'.tup5
    obtain ⟨t, rfl⟩ := p3.str'
    walk_at "GO"
    refine Stop.go (operand_K [x] (by assumption) (by assumption) (by assumption) (by assumption) (Room.deep hr (by decide)) (.inr (News.get (by assumption) (by k_mem))) (.cons (Is.base (by assumption) p5) .nil) (fun o ho => by rw [List.mem_singleton.mp ho]; exact hok) (by decide : (1 : Nat) ≤ 64) fun a vs n h' tk' F' N' off hi => ?_)
    walk_at "GO"
    exact fin _ _ _ _ _ _ _ (by assumption) (by assumption) (by k_mem) (by rw [show (Term.assert x).reads = allReads [x] from (List.append_nil _).symm]; exact hi)
  | call os goal =>
    obtain ⟨b, v0, v1, v2, v3, v4, n1, rfl, p1, p3, p5, p6, p7, p8⟩ := hI'.tup5
    obtain ⟨t, rfl⟩ := p3.str'
    obtain ⟨c, us, n2, rfl, p9, p10⟩ := p6.tup'
    have hz : goal.steps.length ≤ 64 := hok.2.2
    have hb1 := allReads_le os hok.1
    have hb2 := hok.2.1
    have hb3 := goal.set_le hz
    walk_at "GO"
    refine Stop.go (operand_K os (by assumption) (by assumption) (by assumption) (by assumption) (Room.deep hr (by decide)) (.inl (Fr.keep (by assumption) _ _ p9)) (p10.mono (Fr.keep (by assumption))) hok.1 hok.2.1 fun a vs n h' tk' F' N' off hi => ?_)
    walk_at "GO"
    exact fin _ _ _ _ _ _ _ (by assumption) (by assumption) (by k_mem) (by assumption)
end

/-- src's entry taken out of a ledger -/
inductive Pull (src : Addr) (o : Obj) : List (Addr × Obj) → List (Addr × Obj) → Prop
  | head {r} : Pull src o ((src, o) :: r) r
  | tail {p r r'} : Pull src o r r' → Pull src o (p :: r) (p :: r')
theorem Pull.mem {src : Addr} {o : Obj} : ∀ {l l' : List (Addr × Obj)}, Pull src o l l' → (src, o) ∈ l
  | _, _, .head => .head _
  | _, _, .tail h => .tail _ h.mem
theorem Pull.sub {src : Addr} {o : Obj} : ∀ {l l' : List (Addr × Obj)}, Pull src o l l' → ∀ p ∈ l', p ∈ l
  | _, _, .head, _, hp => .tail _ hp
  | _, _, .tail h, p, hp => by
    rcases List.mem_cons.mp hp with rfl | hp
    · exact .head _
    · exact .tail _ (h.sub p hp)

/-- made since h, standing in h' -/
def Fresh (tl : List (Addr × Obj)) (h h' : Heap) : Prop := ∀ p ∈ tl, h.get? p.1 = none ∧ h'.get? p.1 = some p.2
def Off (src : Addr) (l : List (Addr × Obj)) : Prop := ∀ p ∈ l, p.1 ≠ src
theorem Off.nil {src : Addr} : Off src [] := fun _ h => nomatch h
theorem Off.cons {src : Addr} {p : Addr × Obj} {l : List (Addr × Obj)} (h : p.1 ≠ src) (t : Off src l) : Off src (p :: l) := fun q hq => by
  rcases List.mem_cons.mp hq with rfl | hq
  · exact h
  · exact t q hq
theorem Off.app {src : Addr} {l l' : List (Addr × Obj)} (h : Off src l) (t : Off src l') : Off src (l ++ l') := fun q hq => (List.mem_append.mp hq).elim (h q) (t q)
/-- no address of l stands in l' -/
def Apart (l l' : List (Addr × Obj)) : Prop := ∀ p ∈ l, ∀ q ∈ l', p.1 ≠ q.1

theorem srcStep {g h h' : Heap} {L src : Addr} {m : Str → Option Value} {o o' : Obj} {news rest : List (Addr × Obj)} (tl : List (Addr × Obj))
    (F : Fr g L h m) (N : News g L h news) (P : Pull src o news rest) (hoff : Off src rest) (hx : Heap.ExtBut src h h') (ho : h'.get? src = some o') (hf : Fresh tl h h') :
    Fr g L h' m ∧ News g L h' ((src, o') :: (rest ++ tl)) ∧ Off src tl ∧ Apart tl rest := by
  have hs := N _ P.mem
  dsimp only at hs
  obtain ⟨oL, es, ep, hL, r⟩ := F.ns
  refine ⟨⟨⟨oL, es, ep, hx L oL (Ne.symm hs.2.1) hL, r⟩, fun b x e => hx b x (fun q => by rw [q, hs.2.2] at e; cases e) (F.keep b x e), F.above⟩, fun p hp => ?_, fun p hp e => ?_, fun p hp q hq e => ?_⟩
  · rcases List.mem_cons.mp hp with rfl | hp
    · exact ⟨ho, hs.2⟩
    · rcases List.mem_append.mp hp with hp | hp
      · have z := N _ (P.sub p hp)
        exact ⟨hx _ _ (hoff p hp) z.1, z.2⟩
      · have z := hf p hp
        refine ⟨z.2, fun e => ?_, ?_⟩
        · rw [e, hL] at z; cases z.1
        · cases q : g.get? p.1 with
          | none => rfl
          | some x => have := F.keep _ _ q; rw [z.1] at this; cases this
  · have z := (hf p hp).1
    rw [e, hs.1] at z; cases z
  · have z := (hf p hp).1
    rw [e, (N _ (P.sub q hq)).1] at z; cases z

theorem take_K {w : World} {mean : ExcName → Option Value} {mg mb : Str → Option Value} {g : Heap} {dp un : Nat} {fr : Option (List Env)} {gd : Option (List Code)} {s : Shared} {Q E : Value → Shared → Prop} {L src : Addr} {o : Obj} {top : Int} {tt : Tok} {m : Str → Option Value} {news rest : List (Addr × Obj)}
    (F : Fr g L s.heap m) (N : News g L s.heap news) (X : (Mine.K w.params).In g) (T : Top Mine.view (looseW Mine.view []) mean mg mb g)
    (hr : Room dp un 1) (P : Pull src o news rest) (hoff : Off src rest) (hso : SrcO o) (h1 : 1 ≤ top) (h2 : top ≤ 64)
    (post : ∀ k t o' h' tk', Fr g L h' m → News g L h' ((src, o') :: rest) → SrcO o' → 0 ≤ k → k < top → Q (.int k t) { s with heap := h', toks := tk' }) :
    wpAny (model PySem.Challenge.rw_xm0583_01.row.prog w) (Around.mk none dp fr gd un) (call (.ref 143) [.ref src, .int top tt]) Q E s := by
  have hs := N _ P.mem
  refine take_ok X T hr F.keep hs.1 hs.2.2 hso h1 h2 fun k t o' h' tk' k0 k1 hx ho ho' => ?_
  obtain ⟨F', N', _, _⟩ := srcStep [] F N P hoff hx ho (fun _ h => nomatch h)
  rw [List.append_nil] at N'
  exact post k t o' h' tk' F' N' ho' k0 k1

theorem len_base {prog : Program} {w : World} {A : Around} {E : Value → Shared → Prop} {s : Shared} {g : Heap} {L l : Addr} {m : Str → Option Value} {vs : List Value} {n : Nat} {Q : Value → Shared → Prop} (F : Fr g L s.heap m) (hl : g.get? l = some (lstO vs n)) (hz : vs.length ≤ 64)
    (h : Q (.int (vs.length : Int) (s.toks + 1)) { s with toks := s.toks + 1 + 1 }) : wpAny (model prog w) A (call (.builtin "len") [.ref l]) Q E s :=
  len_list (items := vs.toArray) ⟨_, F.keep _ _ hl, rfl, n, rfl⟩ (by rw [List.size_toArray]; omega) (by simpa using h)
theorem item_base {prog : Program} {w : World} {A : Around} {E : Value → Shared → Prop} {s : Shared} {g : Heap} {L l : Addr} {m : Str → Option Value} {value slice : Expr} {vs : List Value} {n : Nat} {k : Int} {u : Tok} {Q : Value → Shared → Prop} (F : Fr g L s.heap m) (hl : g.get? l = some (lstO vs n)) (hz : vs.length ≤ 64)
    (h0 : 0 ≤ k) (h1 : k < vs.length) (h : ∀ v, vs[k.toNat]? = some v → Q v s)
    (hs : subscripted slice false (.ref l) (.int k u) = operate [.ref l, .int k u] (getItem (.ref l) (.int k u)) := by with_unfolding_all rfl) :
    wpAny (model prog w) A (subscriptTail value slice (.ref l) (.int k u)) Q E s := by
  have hlt : k.toNat < vs.length := by omega
  have hx : vs[k.toNat]? = some vs[k.toNat] := by simp [hlt]
  have hL : s.heap.IsList l vs.toArray := ⟨_, F.keep _ _ hl, rfl, n, rfl⟩
  exact tail_any hL.typeIs slot_list_getitem.lookup (wpAny_getItem_list hL h0 (by omega) (by simpa using hx) (h _ hx)) hs

theorem append_P {prog : Program} {w : World} {A : Around} {E : Value → Shared → Prop} {s : Shared} {g : Heap} {L D : Addr} {m : Str → Option Value} {news rest : List (Addr × Obj)} {vs : List Value} {n : Nat} {x : Value} {Q : Value → Shared → Prop} (F : Fr g L s.heap m) (N : News g L s.heap news) (P : Pull D (lstO vs n) news rest) (hoff : Off D rest) (hz : vs.length ≤ 100000)
    (h : ∀ h', Fr g L h' m → News g L h' ((D, lstO (vs ++ [x]) (n + 1)) :: rest) → Q .none { s with heap := h' }) : wpAny (model prog w) A (call (.builtin "list.append") [.ref D, x]) Q E s := by
  have z := N _ P.mem
  refine append_at (hsz := by rw [List.size_toArray, PySem.sizeLine_eq]; omega) z.1 fun h' hs ho' => h h' (F.change hs z.2.1 z.2.2) fun p hp => ?_
  rcases List.mem_cons.mp hp with rfl | hp
  · exact ⟨by rw [ho', List.push_toArray], z.2⟩
  · have y := N _ (P.sub _ hp)
    exact ⟨(hs.2 _ (hoff _ hp)).trans y.1, y.2⟩


local macro_rules | `(tactic| walk_at "exec For Name Call cons nil") => `(tactic| (k_here; refine Stop.of ?_))
local macro_rules | `(tactic| walk_at "exec For Name Name cons nil") => `(tactic| (k_here; refine Stop.of ?_))
local macro_rules | `(tactic| walk_at "exec For Tuple Name cons nil") => `(tactic| (k_here; refine Stop.of ?_))
local macro_rules | `(tactic| walk_at "exec For Tuple Call cons nil") => `(tactic| (k_here; refine Stop.of ?_))
local macro_rules | `(tactic| walk_at "exec For Name BinOp cons nil") => `(tactic| (k_here; refine Stop.of ?_))
local macro_rules | `(tactic| walk_at "exec For Tuple Attribute cons nil") => `(tactic| (k_here; refine Stop.of ?_))
local macro_rules | `(tactic| walk_at "pyIter ref") => `(tactic| (k_here; refine Stop.of ?_))

local macro_rules | `(tactic| walk_at "PULL") => `(tactic| first | exact Pull.head | exact Pull.tail (by walk_at "PULL"))
local macro_rules | `(tactic| walk_at "OFF") => `(tactic| (repeat (first | exact Off.nil | assumption | (refine Off.cons ?_ ?_; (first | assumption | k_ne | exact Ne.symm (by assumption))) | refine Off.app ?_ ?_)))
local macro_rules | `(tactic| walk_at "call ref") => `(tactic| (k_here; (with_reducible show wpAny _ _ (call (Value.ref 143) [_, _]) _ _ _); k_dflt (refine' take_K ?F ?N ?X ?T ?r ?P ?o ?so ?a ?b ?_; (case F => k_asm); (case N => k_asm); (case X => assumption); (case T => assumption); (case r => exact Room.deep (by assumption) (by decide)); (case P => walk_at "PULL"); (case o => walk_at "OFF"); (case so => assumption); (case a => first | decide | omega); (case b => first | decide | omega)); intro k' t' o' h' tk' F' N' so' ka' kb'; (try k_sweep)))
local macro_rules | `(tactic| walk_at "call builtin:list.append") => `(tactic| (k_here; (with_reducible show wpAny _ _ (call (Value.builtin _) [Value.ref _, _]) _ _ _); k_dflt (refine' append_P ?F ?N ?P ?o ?z ?_; (case F => k_asm); (case N => k_asm); (case P => walk_at "PULL"); (case o => walk_at "OFF"); (case z => walk_at "SIZE")); intro h' F' N'; (try k_sweep)))
local macro_rules | `(tactic| walk_at "TAIL") => `(tactic| (repeat (first | assumption | refine List.Mem.tail _ ?_)))
local macro_rules | `(tactic| walk_at "APP") => `(tactic| ((first | (with_reducible show List.Mem _ (_ ++ _)) | (with_reducible show _ ∈ _ ++ _)); first | exact List.mem_append_left _ (by k_mem) | exact List.mem_append_right _ (by k_mem)))
local macro_rules | `(tactic| k_mem) => `(tactic| first | walk_at "APP" | ((fail_if_success (with_reducible show List.Mem _ (_ :: _))); (fail_if_success (with_reducible show _ ∈ _ :: _)); assumption))

section
local macro_rules | `(tactic| walk_at "call builtin:len") => `(tactic| (k_here; (with_reducible show wpAny _ _ (call (Value.builtin "len") [Value.ref _]) _ _ _); k_dflt (refine' len_base ?F ?l ?z ?_; (case F => k_asm); (case l => assumption); (case z => assumption))))
local macro_rules | `(tactic| walk_at "subscriptTail") => `(tactic| (k_here; (with_reducible show wpAny _ _ (subscriptTail _ _ (Value.ref _) (Value.int _ _)) _ _ _); k_dflt (refine' item_base ?F ?l ?z ?a ?b ?_; (case F => k_asm); (case l => assumption); (case z => assumption); (case a => assumption); (case b => assumption)); intro v' hv'))

theorem one_ok {w : World} {mean : ExcName → Option Value} {mg mb : Str → Option Value} {g₀ : Heap} (X : (Mine.K w.params).In g₀) (T : Top Mine.view (looseW Mine.view []) mean mg mb g₀)
    {dp un : Nat} {fr : Option (List Env)} {gd : Option (List Code)} {s : Shared} {Q E : Value → Shared → Prop} {src : Addr} {o : Obj} {l : Addr} {vs : List Value} {n : Nat}
    (hr : Room dp un 2) (hk : g₀.StaysIn s.heap) (hs : s.heap.get? src = some o) (hs₀ : g₀.get? src = none) (hso : SrcO o) (hl : s.heap.get? l = some (lstO vs n)) (hne : l ≠ src) (hz1 : 1 ≤ vs.length) (hz : vs.length ≤ 64)
    (post : ∀ (i : Nat) v o' h' tk', vs[i]? = some v → Heap.ExtBut src s.heap h' → h'.get? src = some o' → SrcO o' → Q v { s with heap := h', toks := tk' }) :
    wpAny (model PySem.Challenge.rw_xm0583_01.row.prog w) (Around.mk none dp fr gd un) (call (.ref 150) [.ref src, .ref l]) Q E s := by
  w_top off
  revert X
  k_fill
  intro X
  k_dflt (refine' enter [(src, o)] X T hk ?ko ?k6 ?k7 ?k8 ?k9 ?kB ?_ ?c2 ?c3 ?c4 ?c5)
  walk_at "ENTER"
  clear X T
  intro g L h tk F N X T hold hL
  have hl' : g.get? l = some (lstO vs n) := hold _ _ (fun q hq => by rw [List.mem_singleton.mp hq]; exact Ne.symm hne) hl
  k_with_none
  walk_at "GO"
  exact post _ _ _ _ _ (by assumption) (Old.ext hold (by assumption)) (News.get (by assumption) (.head _)) (by assumption)
end

section
theorem one_K {w : World} {mean : ExcName → Option Value} {mg mb : Str → Option Value} {g : Heap} {dp un : Nat} {fr : Option (List Env)} {gd : Option (List Code)} {s : Shared} {Q E : Value → Shared → Prop} {L src l : Addr} {o : Obj} {vs : List Value} {n : Nat} {m : Str → Option Value} {news rest : List (Addr × Obj)}
    (F : Fr g L s.heap m) (N : News g L s.heap news) (X : (Mine.K w.params).In g) (T : Top Mine.view (looseW Mine.view []) mean mg mb g)
    (hr : Room dp un 2) (P : Pull src o news rest) (hoff : Off src rest) (hso : SrcO o) (hl : (l, lstO vs n) ∈ rest) (hz1 : 1 ≤ vs.length) (hz : vs.length ≤ 64)
    (post : ∀ (i : Nat) v o' h' tk', vs[i]? = some v → Fr g L h' m → News g L h' ((src, o') :: rest) → SrcO o' → Q v { s with heap := h', toks := tk' }) :
    wpAny (model PySem.Challenge.rw_xm0583_01.row.prog w) (Around.mk none dp fr gd un) (call (.ref 150) [.ref src, .ref l]) Q E s := by
  have hs := N _ P.mem
  refine one_ok X T hr F.keep hs.1 hs.2.2 hso (N _ (P.sub _ hl)).1 (hoff _ hl) hz1 hz fun i v o' h' tk' hv hx ho ho' => ?_
  obtain ⟨F', N', _, _⟩ := srcStep [] F N P hoff hx ho (fun _ h => nomatch h)
  rw [List.append_nil] at N'
  exact post i v o' h' tk' hv F' N' ho'

theorem tuple_K {prog : Program} {w : World} {A : Around} {E : Value → Shared → Prop} {s : Shared} {g : Heap} {L l : Addr} {m : Str → Option Value} {news : List (Addr × Obj)} {vs : List Value} {n : Nat} {Q : Value → Shared → Prop} (F : Fr g L s.heap m) (N : News g L s.heap news) (hm : (l, lstO vs n) ∈ news) (hz : vs.length ≤ 16384)
    (h : ∀ D h', Fr g L h' m → News g L h' ((D, tupO vs 0) :: news) → (∀ p ∈ news, p.1 < D) → Q (.ref D) { s with heap := h' }) : wpAny (model prog w) A (call (.type "tuple") [.ref l]) Q E s :=
  kde_tupleOf F N (items := vs.toArray) ⟨_, (N _ hm).1, rfl, n, rfl⟩ (by rw [List.size_toArray]; exact hz) rfl h

theorem four {a b c d v : Value} {i : Nat} (h : [a, b, c, d][i]? = some v) : v = a ∨ v = b ∨ v = c ∨ v = d := by
  have := List.mem_of_getElem? h
  simpa using this

theorem Old.freshs {src : Addr} {o : Obj} {s g h' : Heap} {L : Addr} {news tl : List (Addr × Obj)} (H : Old [(src, o)] s g) (N : News g L h' news) (hs : ∀ p ∈ tl, p ∈ news) (hoff : Off src tl) : Fresh tl s h' := fun p hp => by
  have z := N p (hs p hp)
  refine ⟨?_, z.1⟩
  cases e : s.get? p.1 with
  | none => rfl
  | some x =>
    have := H p.1 x (fun q hq => by rw [List.mem_singleton.mp hq]; exact Ne.symm (hoff p hp)) e
    rw [z.2.2] at this; cases this

def Step.good : Step → Prop
  | .index k => 0 ≤ k ∧ k < 30
  | _ => True
structure Place.good (p : Place) : Prop where
  loc : 0 ≤ p.loc ∧ p.loc < 30
  idx : ∀ k ∈ p.idx, 0 ≤ k ∧ k < 30
  len : p.steps.length ≤ 3
def Place.drawn (p : Place) : D := .tup [p.d, .int p.loc, .lst (p.idx.map D.int)]

structure PlS (src : Addr) (i : Nat) (m : Str → Option Value) (nx : List (Addr × Obj)) (o : Obj) (sp ip : Addr) (sv iv : List Value) (sn jn : Nat) (tl : List (Addr × Obj)) (ss : List Step) (loc : Int) (t : Tok) : Prop where
  source : m (Str.ofString "source") = some (.ref src)
  steps : m (Str.ofString "steps") = some (.ref sp)
  indexes : m (Str.ofString "indexes") = some (.ref ip)
  loca : m (Str.ofString "local") = some (.int loc t)
  lo : 0 ≤ loc
  hi : loc < 30
  so : SrcO o
  nx : nx = (src, o) :: (sp, lstO sv sn) :: (ip, lstO iv jn) :: tl
  len : ss.length = i
  isv : IsAll (In tl) sv (ss.map Step.d)
  iiv : IntsAre iv (ss.filterMap Step.idx)
  good : ∀ k ∈ ss.filterMap Step.idx, 0 ≤ k ∧ k < 30
  n1 : @Ne Nat sp src
  n2 : @Ne Nat ip src
  n3 : @Ne Nat ip sp
  o1 : Off src tl
  o2 : Off sp tl
def PlJ (src : Addr) (loc : Int) (t : Tok) (i : Nat) (m : Str → Option Value) (nx : List (Addr × Obj)) : Prop :=
  ∃ o sp ip sv iv sn jn tl ss, PlS src i m nx o sp ip sv iv sn jn tl ss loc t

theorem pl_end {g h' : Heap} {L src I sp ip ip' t : Addr} {oI o o' : Obj} {i sn jn n1 n2 n3 tk : Nat} {m₁ m' : Str → Option Value} {nx news tl : List (Addr × Obj)} {sv iv iv' tv : List Value} {ss : List Step} {loc : Int} {tt : Tok} {s₁ : Shared} {Q : Flow → Shared → Prop} (st : Step)
    (S : PlS src i m₁ nx o sp ip sv iv sn jn tl ss loc tt) (FF : Fr g L h' m') (NN : News g L h' news) (hI : (I, oI) ∈ news) (hs : (src, o') ∈ news) (hsp : (sp, lstO (sv ++ [.ref t]) n1) ∈ news) (hix : m' (Str.ofString "indexes") = some (.ref ip')) (hip : (ip', lstO iv' n2) ∈ news)
    (ht : (t, tupO tv n3) ∈ news) (htl : ∀ p ∈ tl, p ∈ news) (hst : Is (In [(t, tupO tv n3)]) (.ref t) st.d) (hii : IntsAre iv' (ss.filterMap Step.idx ++ st.idx.toList)) (hg : ∀ k, st.idx = some k → 0 ≤ k ∧ k < 30)
    (e1 : m' (Str.ofString "source") = some (.ref src)) (e2 : m' (Str.ofString "steps") = some (.ref sp)) (e4 : m' (Str.ofString "local") = some (.int loc tt)) (so' : SrcO o')
    (x1 : @Ne Nat t src) (x2 : @Ne Nat t sp) (x3 : @Ne Nat t I) (y1 : @Ne Nat ip' src) (y2 : @Ne Nat ip' sp) (y3 : @Ne Nat ip' I) (z1 : @Ne Nat src I) (z2 : @Ne Nat sp I) (z3 : Off I tl) :
    TurnEnd g L (PlJ src loc tt (i + 1)) I oI s₁ Q .next { s₁ with heap := h', toks := tk } := by
  have sub : ∀ (a : Addr) (x : Obj), In [(t, tupO tv n3)] a x → In ((t, tupO tv n3) :: tl) a x := fun a x q => by
    show (a, x) ∈ _
    rw [List.mem_singleton.mp q]; exact .head _
  refine TurnEnd.intro ((src, o') :: (sp, lstO (sv ++ [.ref t]) n1) :: (ip', lstO iv' n2) :: (t, tupO tv n3) :: tl) FF
    (News.pick NN hI (News.pick NN hs (News.pick NN hsp (News.pick NN hip (News.pick NN ht (Mine.News.sub NN htl)))))) (Off.cons z1 (Off.cons z2 (Off.cons y3 (Off.cons x3 z3))))
    ⟨o', sp, ip', sv ++ [.ref t], iv', n1, n2, (t, tupO tv n3) :: tl, ss ++ [st], ⟨e1, e2, hix, e4, S.lo, S.hi, so', rfl, by rw [List.length_append, S.len]; rfl, ?_, ?_, ?_, S.n1, y1, y2, Off.cons x1 S.o1, Off.cons x2 S.o2⟩⟩
  · rw [List.map_append]
    exact (S.isv.mono fun a x q => .tail _ q).append (.cons (hst.mono sub) .nil)
  · rw [List.filterMap_append]
    cases hst' : st.idx <;> simpa [hst'] using hii
  · intro k hk
    rw [List.filterMap_append] at hk
    rcases List.mem_append.mp hk with hk | hk
    · exact S.good k hk
    · simp at hk
      exact hg k hk

local macro_rules | `(tactic| walk_at "call type:tuple") => `(tactic| (k_here; (with_reducible show wpAny _ _ (call (Value.type _) [Value.ref _]) _ _ _); k_dflt (refine' tuple_K ?F ?N ?m ?z ?_; (case F => k_asm); (case N => k_asm); (case m => k_mem); (case z => walk_at "SIZE")); intro D' h' F' N' l1; (try k_lt l1); (try k_sweep)))

theorem lplace_ok {w : World} {mean : ExcName → Option Value} {mg mb : Str → Option Value} {g₀ : Heap} (X : (Mine.K w.params).In g₀) (T : Top Mine.view (looseW Mine.view []) mean mg mb g₀)
    {dp un : Nat} {fr : Option (List Env)} {gd : Option (List Code)} {s : Shared} {Q E : Value → Shared → Prop} {src : Addr} {o : Obj} {most : Int} {mt : Tok}
    (hr : Room dp un 3) (hk : g₀.StaysIn s.heap) (hs : s.heap.get? src = some o) (hs₀ : g₀.get? src = none) (hso : SrcO o) (h1 : 0 ≤ most) (h2 : most ≤ 3)
    (post : ∀ r P tl o' h' tk', Heap.ExtBut src s.heap h' → h'.get? src = some o' → SrcO o' → Fresh tl s.heap h' → Place.good P → Is (In tl) r P.drawn → Q r { s with heap := h', toks := tk' }) :
    wpAny (model PySem.Challenge.rw_xm0583_01.row.prog w) (Around.mk none dp fr gd un) (call (.ref 157) [.ref src, .int most mt]) Q E s := by
  w_top off
  revert X
  k_fill
  intro X
  k_dflt (refine' enter [(src, o)] X T hk ?ko ?k6 ?k7 ?k8 ?k9 ?kB ?_ ?c2 ?c3 ?c4 ?c5)
  walk_at "ENTER"
  clear X T
  intro g L h tk F N X T hold hL
  k_with_none
  have fin : ∀ r P news rest o' h' tk' m', Fr g L h' m' → News g L h' news → Pull src o' news rest → Off src rest → SrcO o' → Place.good P → Is (In rest) r P.drawn → Q r { s with heap := h', toks := tk' } :=
    fun r P news rest o' h' tk' m' FF NN PP OO so gd hi => post r P rest o' h' tk' (Old.ext hold FF) (NN _ PP.mem).1 so (Old.freshs hold NN PP.sub OO) gd hi
  walk_at "GO"
  refine Stop.go (For_invVF (h₀ := g) (by assumption) (by rfl) (by rfl) ?_)
  walk_at "GO"
  rename IsRange _ _ _ _ _ _ _ _ => hR
  rename Fr _ _ _ _ => FF
  rename News _ _ _ _ => NN
  rename SrcO _ => hso2
  refine Stop.go (rng_loop (PlJ src _ _) rfl hR (small_one (by decide) (by decide) (by omega) (by omega)) (rangeSize_nat _ _) FF
    (News.pick NN (by k_mem) (News.pick NN (by k_mem) (News.pick NN (by k_mem) News.nil)))
    ⟨_, _, _, [], [], _, _, [], [], ⟨rfl, rfl, rfl, rfl, by assumption, by assumption, hso2, rfl, rfl, .nil, .nil, (fun _ h => nomatch h), by omega, by omega, by omega, Off.nil, Off.nil⟩⟩ ?_ ?_)
  · clear FF NN hR
    rintro i t m₁ nx h tk I oI hlt ⟨o, sp, ip, sv, iv, sn, jn, tl, ss, S⟩ off (F : Fr g L h _) (N : News g L h _)
    obtain ⟨e1, e2, e3, e4, lo, hi, so, rfl, len, isv, iiv, _, n1, n2, n3, o1, o2⟩ := id S
    have i1 : @Ne Nat src I := off _ (.head _)
    have i2 : @Ne Nat sp I := off _ (.tail _ (.head _))
    have i3 : @Ne Nat ip I := off _ (.tail _ (.tail _ (.head _)))
    have i4 : Off I tl := fun p hp => off p (.tail _ (.tail _ (.tail _ hp)))
    have hle : (ss.filterMap Step.idx).length ≤ ss.length := List.length_filterMap_le _ _
    have hsv : sv.length ≤ 3 := by
      have e := isv.length
      rw [List.length_map] at e
      omega
    have hle2 : (ss.filterMap Step.idx).length ≤ 3 := by omega
    walk_at "GO"
    refine Stop.go (one_K (by assumption) (by assumption) X T (Room.deep hr (by decide)) (by walk_at "PULL") (by walk_at "OFF") (by assumption) (by k_mem) (Nat.le_of_ble_eq_true rfl) (Nat.le_of_ble_eq_true rfl) fun i v o' h' tk' hv F' N' so' => ?_)
    rcases four hv with rfl | rfl | rfl | rfl
    all_goals (clear hv; walk_at "GO")
    all_goals (rename Fr _ _ _ _ => FF; rename News _ _ _ _ => NN)
    · exact pl_end (.index _) S FF NN (by k_mem) (by k_mem) (by k_mem) (by rfl) (by k_mem) (by k_mem) (fun p hp => by walk_at "TAIL") (.tup (.head _) (.cons (.str _ _) (.cons (.int _ _) .nil))) (by assumption)
        (fun k hk => by cases hk; exact ⟨by assumption, by assumption⟩) (by exact e1) (by exact e2) (by exact e4) so' (by omega) (by omega) (by omega) (by omega) (by omega) (by omega) i1 i2 i4
    · exact pl_end (.field _) S FF NN (by k_mem) (by k_mem) (by k_mem) (by rfl) (by k_mem) (by k_mem) (fun p hp => by walk_at "TAIL") (.tup (.head _) (.cons (.str _ _) (.cons (.int _ _) .nil))) (by assumption)
        (fun k hk => by cases hk) (by exact e1) (by exact e2) (by exact e4) so' (by omega) (by omega) (by omega) (by omega) (by omega) (by omega) i1 i2 i4
    · exact pl_end .deref S FF NN (by k_mem) (by k_mem) (by k_mem) (by rfl) (by k_mem) (by k_mem) (fun p hp => by walk_at "TAIL") (.tup (.head _) (.cons (.str _ _) .nil)) (by assumption)
        (fun k hk => by cases hk) (by exact e1) (by exact e2) (by exact e4) so' (by omega) (by omega) (by omega) (by omega) (by omega) (by omega) i1 i2 i4
    · exact pl_end (.downcast _) S FF NN (by k_mem) (by k_mem) (by k_mem) (by rfl) (by k_mem) (by k_mem) (fun p hp => by walk_at "TAIL") (.tup (.head _) (.cons (.str _ _) (.cons (.int _ _) .nil))) (by assumption)
        (fun k hk => by cases hk) (by exact e1) (by exact e2) (by exact e4) so' (by omega) (by omega) (by omega) (by omega) (by omega) (by omega) i1 i2 i4
  · clear FF NN hR
    rintro m₁ nx h tk ⟨o, sp, ip, sv, iv, sn, jn, tl, ss, S⟩ (F : Fr g L h _) (N : News g L h _)
    obtain ⟨e1, e2, e3, e4, lo, hi, so, rfl, len, isv, iiv, gd, n1, n2, n3, o1, o2⟩ := id S
    have hsv : sv.length ≤ 3 := by
      have e := isv.length
      rw [List.length_map] at e
      omega
    walk_at "GO"
    rename Fr _ _ _ _ => FF
    rename News _ _ _ _ => NN
    exact fin _ ⟨_, ss⟩ _ _ _ _ _ _ FF NN (by walk_at "PULL") (by walk_at "OFF") so ⟨⟨lo, hi⟩, gd, by show ss.length ≤ 3; omega⟩
      (.tup (by k_mem) (.cons (.tup (by k_mem) (.cons (.int _ _) (.cons (.tup (by k_mem) (isv.mono fun a o q => by walk_at "TAIL")) .nil))) (.cons (.int _ _) (.cons (.lst (by k_mem) (IsAll.ofInts iiv)) .nil))))
end

theorem lplace_K {w : World} {mean : ExcName → Option Value} {mg mb : Str → Option Value} {g : Heap} {dp un : Nat} {fr : Option (List Env)} {gd : Option (List Code)} {s : Shared} {Q E : Value → Shared → Prop} {L src : Addr} {o : Obj} {most : Int} {mt : Tok} {m : Str → Option Value} {news rest : List (Addr × Obj)}
    (F : Fr g L s.heap m) (N : News g L s.heap news) (X : (Mine.K w.params).In g) (T : Top Mine.view (looseW Mine.view []) mean mg mb g)
    (hr : Room dp un 3) (P : Pull src o news rest) (hoff : Off src rest) (hso : SrcO o) (h1 : 0 ≤ most) (h2 : most ≤ 3)
    (post : ∀ r P tl o' h' tk', Fr g L h' m → News g L h' ((src, o') :: (rest ++ tl)) → Off src tl → Apart tl rest → SrcO o' → Place.good P → Is (In tl) r P.drawn → Q r { s with heap := h', toks := tk' }) :
    wpAny (model PySem.Challenge.rw_xm0583_01.row.prog w) (Around.mk none dp fr gd un) (call (.ref 157) [.ref src, .int most mt]) Q E s := by
  have hs := N _ P.mem
  refine lplace_ok X T hr F.keep hs.1 hs.2.2 hso h1 h2 fun r PP tl o' h' tk' hx ho ho' hf hg hi => ?_
  obtain ⟨F', N', o1, o2⟩ := srcStep tl F N P hoff hx ho hf
  exact post r PP tl o' h' tk' F' N' o1 o2 ho' hg hi

theorem lset_ok {w : World} {mean : ExcName → Option Value} {mg mb : Str → Option Value} {g₀ : Heap} (X : (Mine.K w.params).In g₀) (T : Top Mine.view (looseW Mine.view []) mean mg mb g₀)
    {dp un : Nat} {fr : Option (List Env)} {gd : Option (List Code)} {s : Shared} {Q E : Value → Shared → Prop} {v : Value} {P : Place}
    (hr : Room dp un 1) (hk : g₀.StaysIn s.heap) (hI : Is (At s.heap) v P.drawn) (hz : P.steps.length ≤ 64)
    (post : ∀ a vs n h' tk', s.heap.StaysIn h' → s.heap.get? a = none → h'.get? a = some (lstO vs n) → IntsAre vs P.set → Q (.ref a) { s with heap := h', toks := tk' }) :
    wpAny (model PySem.Challenge.rw_xm0583_01.row.prog w) (Around.mk none dp fr gd un) (call (.ref 164) [v]) Q E s := by
  w_top off
  revert X
  k_fill
  intro X
  k_dflt (refine' enter [] X T hk ?ko ?k6 ?k7 ?k8 ?k9 ?kB ?_ ?c2 ?c3 ?c4 ?c5)
  walk_at "ENTER"
  clear X T
  intro g L h tk F N X T hold hL
  have hI' : Is (At g) v P.drawn := hI.mono fun a o e => hold a o (fun q hq => nomatch hq) e
  obtain ⟨a, v1, v2, v3, n1, rfl, p1, q1, q2, q3⟩ := hI'.tup3
  obtain ⟨t2, rfl⟩ := q2.int'
  obtain ⟨c, iv, n2, rfl, p3, q4⟩ := q3.lst'
  have q5 := q4.ints
  obtain ⟨b, w1, w2, n3, rfl, p4, r1, r2⟩ := q1.tup2
  obtain ⟨d, sv, n4, rfl, p5, r3⟩ := r2.tup'
  have hL : g.IsList c iv.toArray := ⟨_, p3, rfl, _, rfl⟩
  have hlen : P.idx.length ≤ 64 := Nat.le_trans (List.length_filterMap_le _ _) hz
  have e9 := r3.length
  rw [List.length_map] at e9
  walk_at "GO"
  · show Q _ _
    refine post _ _ _ _ _ (Old.stays hold (by assumption)) (Old.fresh hold (by assumption) (by k_mem)) (News.get (by assumption) (by k_mem)) ?_
    have e : P.steps ≠ [] := fun e => by
      rw [e] at e9
      exact absurd (List.length_eq_zero_iff.mp e9) (by assumption)
    unfold Place.set
    rw [if_neg e]
    assumption
  · show Q _ _
    refine post _ _ _ _ _ (Old.stays hold (by assumption)) (Old.fresh hold (by assumption) (by k_mem)) (News.get (by assumption) (by k_mem)) ?_
    have e : P.steps = [] := by
      have h8 := Classical.not_not.mp (by assumption : ¬ (_ : List Value) ≠ [])
      rw [h8] at e9
      exact List.length_eq_zero_iff.mp e9.symm
    unfold Place.set
    rw [if_pos e]
    assumption

def Operand.good : Operand → Prop
  | .copy p => p.good
  | .move p => p.good
  | .const n => 0 ≤ n ∧ n < 30
def Operand.drawn (x : Operand) : D := .tup [x.d, .lst (x.reads.map D.int)]
theorem three {a b c v : Value} {i : Nat} (h : [a, b, c][i]? = some v) : v = a ∨ v = b ∨ v = c := by
  have := List.mem_of_getElem? h
  simpa using this


theorem loperand_ok {w : World} {mean : ExcName → Option Value} {mg mb : Str → Option Value} {g₀ : Heap} (X : (Mine.K w.params).In g₀) (T : Top Mine.view (looseW Mine.view []) mean mg mb g₀)
    {dp un : Nat} {fr : Option (List Env)} {gd : Option (List Code)} {s : Shared} {Q E : Value → Shared → Prop} {src : Addr} {o : Obj}
    (hr : Room dp un 4) (hk : g₀.StaysIn s.heap) (hs : s.heap.get? src = some o) (hs₀ : g₀.get? src = none) (hso : SrcO o)
    (post : ∀ r x tl o' h' tk', Heap.ExtBut src s.heap h' → h'.get? src = some o' → SrcO o' → Fresh tl s.heap h' → Operand.good x → Is (In tl) r x.drawn → Q r { s with heap := h', toks := tk' }) :
    wpAny (model PySem.Challenge.rw_xm0583_01.row.prog w) (Around.mk none dp fr gd un) (call (.ref 171) [.ref src]) Q E s := by
  w_top off
  revert X
  k_fill
  intro X
  k_dflt (refine' enter [(src, o)] X T hk ?ko ?k6 ?k7 ?k8 ?k9 ?kB ?_ ?c2 ?c3 ?c4 ?c5)
  walk_at "ENTER"
  clear X T
  intro g L h tk F N X T hold hL
  k_with_none
  have fin : ∀ r x news rest o' h' tk' m', Fr g L h' m' → News g L h' news → Pull src o' news rest → Off src rest → SrcO o' → Operand.good x → Is (In rest) r x.drawn → Q r { s with heap := h', toks := tk' } :=
    fun r x news rest o' h' tk' m' FF NN PP OO so gd hi => post r x rest o' h' tk' (Old.ext hold FF) (NN _ PP.mem).1 so (Old.freshs hold NN PP.sub OO) gd hi
  walk_at "GO"
  refine Stop.go (lplace_K (by assumption) (by assumption) X T (Room.deep hr (by decide)) (by walk_at "PULL") (by walk_at "OFF") (by assumption) (by decide) (by decide) fun r P tl o' h' tk' F' N' o1 o2 so hg hi => ?_)
  rw [List.nil_append] at N'
  clear F N
  obtain ⟨a, v1, v2, v3, n1, rfl, p1, q1, q2, q3⟩ := hi.tup3
  obtain ⟨t2, rfl⟩ := q2.int'
  obtain ⟨c, iv, n2, rfl, p3, q4⟩ := q3.lst'
  have q5 := q4.ints
  have hlen : P.idx.length ≤ 3 := Nat.le_trans (List.length_filterMap_le _ _) hg.len
  walk_at "GO"
  refine Stop.go (one_K (by assumption) (by assumption) X T (Room.deep hr (by decide)) (by walk_at "PULL") (by walk_at "OFF") (by assumption) (by k_mem) (Nat.le_of_ble_eq_true rfl) (Nat.le_of_ble_eq_true rfl) fun i v o2 h2 tk2 hv F2 N2 so2 => ?_)
  rcases three hv with rfl | rfl | rfl
  all_goals (clear hv; walk_at "GO"; rename Fr _ _ _ _ => FF; rename News _ _ _ _ => NN)
  · exact fin _ (.copy P) _ _ _ _ _ _ FF NN (by walk_at "PULL") (by walk_at "OFF") so2 hg
      (.tup (by k_mem) (.cons (.tup (by k_mem) (.cons (.str _ _) (.cons (q1.mono fun a o q => by walk_at "TAIL") .nil))) (.cons (.lst (by k_mem) (IsAll.ofInts (by assumption))) .nil)))
  · exact fin _ (.move P) _ _ _ _ _ _ FF NN (by walk_at "PULL") (by walk_at "OFF") so2 hg
      (.tup (by k_mem) (.cons (.tup (by k_mem) (.cons (.str _ _) (.cons (q1.mono fun a o q => by walk_at "TAIL") .nil))) (.cons (.lst (by k_mem) (IsAll.ofInts (by assumption))) .nil)))
  · exact fin _ (.const P.loc) _ _ _ _ _ _ FF NN (by walk_at "PULL") (by walk_at "OFF") so2 hg.loc
      (.tup (by k_mem) (.cons (.tup (by k_mem) (.cons (.str _ _) (.cons (.tup (by k_mem) (.cons (.str _ _) (.cons (.str _ _) .nil))) (.cons (.int _ _) .nil)))) (.cons (.lst (by k_mem) .nil) .nil)))

theorem enterC {prog : Program} {w : World} {K : Frag} {p : Program} {loose : List Str} {mean : ExcName → Option Value} {mg mb : Str → Option Value} {g₀ : Heap}
    {hd : Option Value} {dp un : Nat} {fr : Option (List Env)} {gd : Option (List Code)} {s : Shared} (own : List (Addr × Obj)) {f : Addr} {vals : List Value} {Q : Value → Shared → Prop} {E : Value → Shared → Prop}
    {name qual : Str} {params : Arguments} {body : List Stmt} {scope : Scope} {dV kV doc pm cdv ct oc : Value} {an od : Option Addr} {osl : Array (Option Value)} {binds : List (Str × Value)}
    (X : K.In g₀) (T : Top p loose mean mg mb g₀) (hk : g₀.StaysIn s.heap) (hown : ∀ q ∈ own, s.heap.get? q.1 = some q.2 ∧ g₀.get? q.1 = none)
    (ho : K.lookup f = some ⟨oc, od, .func (fnOf name qual params body scope dV kV doc pm an cdv ct), osl⟩) (hcd : codeIn K cdv qual = true) (hroom : dp < recursionLimit)
    (hbind : BindsTo s (fnOf name qual params body scope dV kV doc pm an cdv ct) ⟨vals, []⟩ binds)
    (hkind : (binds.all fun y => scope.names.lookup y.1 == some .local || scope.names.lookup y.1 == some .cell) = true) (hnd : ((cellsFrom 0 scope.names []).map (·.1)).Nodup)
    (h : ∀ g L' h₁ tk cells, Fr g L' h₁ (bindL (envOfC qual scope L' f cdv).kindOf binds fun _ => none) → News g L' h₁ (cells ++ own) → CellsAre (bindC (envOfC qual scope L' f cdv).kindOf binds fun _ => none) (cellsFrom (L' + 1) scope.names []) cells →
      K.In g → Top p loose mean mg mb g → Old own s.heap g → (∀ p ∈ own, p.1 < L') →
      wpAny (model prog w) ((Around.mk hd dp fr gd un).deeper (envOfC qual scope L' f cdv)) (execs body (envOfC qual scope L' f cdv))
        (fun fl s' => Q (match fl with | .ret v => v | _ => .none) s') (fun _ _ => False)
        { s with heap := h₁, toks := tk })
    (hco : scope.isCoroutine = false) (hgen : scope.isGenerator = false) (hkd : scope.kind = .function) :
    wpAny (model prog w) (Around.mk hd dp fr gd un) (call (.ref f) vals) Q E s := by
  have K' : K.In s.heap := X.keeps hk
  refine wpAny_call ?_
  refine codeAny_call_function (fd := fnOf name qual params body scope dV kV doc pm an cdv ct) hroom (K' _ _ ho) rfl hco hgen rfl (codeRec_of K' hcd) (hbind _ _ _ _ ?_)
  refine wpAny_newFunctionEnv_cells hkd (kindsX hkind _) fun env' he s' x => ?_
  subst he
  refine ⟨(T.nolimit.keeps hk).keeps x.toInCall.keep, codeAny_func ?_⟩
  obtain ⟨h₁, tk, rfl, _⟩ := x.done
  have hk₁ := x.toInCall.keep
  obtain ⟨cells, NC, Y⟩ := Cl.news (h₀ := s.heap) (Nat.le_refl _) fun n c hm => ⟨x.cell n c (lookup_of_mem_nodup (cellsFrom_names scope.names 0 (s.heap.objs.size + 1) [] [] rfl ▸ hnd) hm), x.above n c hm⟩
  have st : g₀.StaysIn (hideAll s.heap (own.map (·.1))) := fun b o e => hideAll_get _ (hk b o e) (fun q => by
    obtain ⟨p, hp, rfl⟩ := List.mem_map.mp q
    rw [(hown p hp).2] at e; cases e)
  refine wpAny_mono (h (hideAll s.heap (own.map (·.1))) s.heap.objs.size h₁ tk cells ⟨x.toInCall.ns, fun b o e => hk₁ b o (of_hideAll _ e), Nat.le_of_eq (hideAll_size _ _)⟩ (fun p hp => ?_) Y
    (Frag.In.keeps X fun b o => st b o) (T.keeps fun b o => st b o)
    (fun b o hb e => hideAll_get _ e (fun q => by
      obtain ⟨p, hp, rfl⟩ := List.mem_map.mp q
      exact hb p hp rfl)) (fun p hp => Heap.lt_size (hown p hp).1)) (fun fl s' hq => hq) (fun _ _ x => x.elim)
  rcases List.mem_append.mp hp with hp | hp
  · refine ⟨(NC p hp).1, (NC p hp).2.1, ?_⟩
    cases q : (hideAll s.heap (own.map (·.1))).get? p.1 with
    | none => rfl
    | some o => have := of_hideAll _ q; rw [(NC p hp).2.2] at this; cases this
  · exact ⟨hk₁ _ _ (hown p hp).1, Nat.ne_of_lt (Heap.lt_size (hown p hp).1), hideAll_none _ (List.mem_map_of_mem hp)⟩

section
variable {prog : Program} {w : World} {A : Around} {E : Value → Shared → Prop} {s : Shared} {env : Env} {g : Heap} {target : Expr} {body : List Stmt} {Q : Flow → Shared → Prop}

/-- a turn's end of a loop that never leaves early -/
def TurnT (g : Heap) (L : Addr) (J : (Str → Option Value) → List (Addr × Obj) → Prop) (I : Addr) (oI : Obj) (s₁ : Shared) (f : Flow) (s₂ : Shared) : Prop :=
  f = .next ∧ ∃ h' tk m' nx, s₂ = { s₁ with heap := h', toks := tk } ∧ Fr g L h' m' ∧ News g L h' ((I, oI) :: nx) ∧ (∀ p ∈ nx, p.1 ≠ I) ∧ J m' nx
theorem TurnT.intro {L : Addr} {J : (Str → Option Value) → List (Addr × Obj) → Prop} {I : Addr} {oI : Obj} {s₁ : Shared} {h' : Heap} {tk : Nat} {m' : Str → Option Value} (nx : List (Addr × Obj))
    (F : Fr g L h' m') (N : News g L h' ((I, oI) :: nx)) (off : ∀ p ∈ nx, p.1 ≠ I) (j : J m' nx) : TurnT g L J I oI s₁ .next { s₁ with heap := h', toks := tk } := ⟨rfl, h', tk, m', nx, rfl, F, N, off, j⟩

theorem loopT_of {I : Addr} {fp : List Addr} {n : Nat} {P : Nat → Value → Prop} {St : Nat → Heap → Prop} {m₀ : Str → Option Value} {news : List (Addr × Obj)} (sr : List (Addr × Obj)) (J : Nat → (Str → Option Value) → List (Addr × Obj) → Prop)
    (W : Walks prog w A I fp [I] n P St) (hfp : ∀ b ∈ fp, b = I ∨ (∃ o, g.get? b = some o) ∨ ∃ o, (b, o) ∈ sr) (hsr : ∀ i m nx, J i m nx → ∀ p ∈ sr, p ∈ nx) (hIo : ∀ i h, St i h → ∃ o, h.get? I = some o)
    (hgo : ∀ i (s' : Shared) v (Q' : Unit → Shared → Prop), St i s'.heap → Q' () s' → wpAny (model prog w) A (letOwnedTupleGo target (.ref I) v) Q' E s')
    (hst : St 0 s.heap) (hLf : env.locals ∉ fp) (hI : g.get? I = none) (hnI : ∀ p ∈ news, p.1 ≠ I) (F : Fr g env.locals s.heap m₀) (N : News g env.locals s.heap news) (h0 : J 0 m₀ news)
    (turn : ∀ i v m₁ nx (s₁ : Shared) oI, i < n → P i v → J i m₁ nx → (∀ p ∈ nx, p.1 ≠ I) → Fr g env.locals s₁.heap m₁ → News g env.locals s₁.heap ((I, oI) :: nx) →
      wpAny (model prog w) A (assign target env v) (fun _ s₃ => wpAny (model prog w) A (execs body env) (TurnT g env.locals (J (i + 1)) I oI s₁) E s₃) E s₁)
    (done : ∀ m₁ nx h tk, J n m₁ nx → Fr g env.locals h m₁ → News g env.locals h nx → Q .next { s with heap := h, toks := tk }) :
    LoopAtT prog w A g env target body Q E (.ref I) s := by
  refine ⟨I, fp, [I], n, P, St, m₀, news, J, rfl, W, hLf, (fun b hb => by rw [List.mem_singleton.mp hb]; exact hI), (fun p hp hb => hnI p hp (List.mem_singleton.mp hb)), hst, F, N, hgo, h0, ?_, ?_⟩
  · intro i v m₁ nx s₁ own hi hP hJ hoff hown hget hall hst₁ F₁ N₁
    obtain ⟨oI, hoI⟩ := hIo _ _ hst₁
    have hIown : (I, oI) ∈ own := hall I (W.sub I (List.mem_singleton.mpr rfl)) hI oI hoI
    have hoff' : ∀ p ∈ nx, p.1 ≠ I := fun p hp e => hoff p hp (List.mem_singleton.mpr e)
    have N₂ : News g env.locals s₁.heap ((I, oI) :: nx) := fun p hp => by
      rcases List.mem_cons.mp hp with rfl | hp
      · exact N₁ _ (List.mem_append_left _ hIown)
      · exact N₁ _ (List.mem_append_right _ hp)
    refine wpAny_mono (turn i v m₁ nx s₁ oI hi hP hJ hoff' F₁ N₂) (fun _ s₃ h₃ => wpAny_mono h₃ (fun f s₂ h₂ => ?_) fun _ _ e => e) fun _ _ e => e
    obtain ⟨rfl, h', tk', m', nx', rfl, F', N', off', hJ'⟩ := h₂
    refine ⟨rfl, h', tk', m', nx', rfl, F', ?_, fun p hp hb => off' p hp (List.mem_singleton.mp hb), hJ'⟩
    intro p hp
    rcases List.mem_append.mp hp with hp | hp
    · rcases hfp _ (hown p hp) with e | ⟨o, e⟩ | ⟨o, e⟩
      · have h1 := hget p hp
        rw [e, hoI] at h1
        have : p = (I, oI) := by
          obtain ⟨p1, p2⟩ := p
          cases h1; cases e; rfl
        rw [this]
        exact N' _ (.head _)
      · have := (N₁ p (List.mem_append_left _ hp)).2.2
        rw [e] at this; cases this
      · have h1 := hget p hp
        have h3 := (N₁ _ (List.mem_append_right _ (hsr _ _ _ hJ _ e))).1
        dsimp only at h3
        rw [h3] at h1
        have : p = (p.1, o) := by
          obtain ⟨p1, p2⟩ := p
          cases h1; rfl
        rw [this]
        exact N' _ (.tail _ (hsr _ _ _ hJ' _ e))
    · exact N' _ (.tail _ hp)
  · rintro h' tk m' nx F' N' _ hJ
    exact done m' nx h' tk hJ F' N'

/-- a for with a tuple of targets over a list of the ledger, which the turns leave as it is -/
theorem led_loopT {l : Addr} {vs : List Value} {n : Nat} {m₀ : Str → Option Value} {news : List (Addr × Obj)} (J : Nat → (Str → Option Value) → List (Addr × Obj) → Prop)
    (hh : A.handled = none) (F : Fr g env.locals s.heap m₀) (N : News g env.locals s.heap news) (hl : (l, lstO vs n) ∈ news) (hJ : ∀ i m nx, J i m nx → (l, lstO vs n) ∈ nx) (h0 : J 0 m₀ news)
    (turn : ∀ i v m₁ nx (s₁ : Shared) I oI, vs[i]? = some v → J i m₁ nx → (∀ p ∈ nx, p.1 ≠ I) → Fr g env.locals s₁.heap m₁ → News g env.locals s₁.heap ((I, oI) :: nx) →
      wpAny (model prog w) A (assign target env v) (fun _ s₃ => wpAny (model prog w) A (execs body env) (TurnT g env.locals (J (i + 1)) I oI s₁) E s₃) E s₁)
    (done : ∀ m₁ nx h tk, J vs.length m₁ nx → Fr g env.locals h m₁ → News g env.locals h nx → Q .next { s with heap := h, toks := tk }) :
    wpAny (model prog w) A (pyIter (.ref l)) (fun it s₂ => LoopAtT prog w A g env target body Q E it s₂) E s := by
  have hl' : s.heap.get? l = some (lstO vs n) := (N _ hl).1
  obtain ⟨h1, h2, h3⟩ := seq_facts F hl' (N _ hl).2.1
  have hL : s.heap.IsList l vs.toArray := ⟨_, hl', rfl, n, rfl⟩
  refine wpAny_pyIter_list hL ?_
  refine loopT_of [(l, lstO vs n)] J (Walks.list hh _ l h1 vs.toArray) (fun b hb => ?_) (fun i m nx j p hp => by rw [List.mem_singleton.mp hp]; exact hJ i m nx j) (fun i h st => by obtain ⟨o, e, _⟩ := st.1; exact ⟨o, e⟩)
    (fun i s' v Q' st hQ' => letGo_listiter st.1 hQ') ⟨⟨_, Heap.get?_push_size _ rfl, rfl, rfl⟩, hL.push _⟩ h2 h3
    (fun p hp => Nat.ne_of_lt (Heap.lt_size (N p hp).1)) (F.push _) (fun p hp => ⟨Heap.get?_push_of_some _ (N p hp).1, (N p hp).2⟩) h0 (fun i v m₁ nx s₁ oI _ hP => turn i v m₁ nx s₁ _ oI (by simpa using hP)) (by simpa using done)
  rcases List.mem_cons.mp hb with e | hb
  · exact .inl e
  · exact .inr (.inr ⟨_, by rw [List.mem_singleton.mp hb]; exact .head _⟩)

/-- a for with a tuple of targets over a list of the base -/
theorem lst_loopT {l : Addr} {vs : List Value} {n : Nat} {m₀ : Str → Option Value} {news : List (Addr × Obj)} (J : Nat → (Str → Option Value) → List (Addr × Obj) → Prop)
    (hh : A.handled = none) (hl : g.get? l = some (lstO vs n)) (F : Fr g env.locals s.heap m₀) (N : News g env.locals s.heap news) (h0 : J 0 m₀ news)
    (turn : ∀ i v m₁ nx (s₁ : Shared) I oI, vs[i]? = some v → J i m₁ nx → (∀ p ∈ nx, p.1 ≠ I) → Fr g env.locals s₁.heap m₁ → News g env.locals s₁.heap ((I, oI) :: nx) →
      wpAny (model prog w) A (assign target env v) (fun _ s₃ => wpAny (model prog w) A (execs body env) (TurnT g env.locals (J (i + 1)) I oI s₁) E s₃) E s₁)
    (done : ∀ m₁ nx h tk, J vs.length m₁ nx → Fr g env.locals h m₁ → News g env.locals h nx → Q .next { s with heap := h, toks := tk }) :
    wpAny (model prog w) A (pyIter (.ref l)) (fun it s₂ => LoopAtT prog w A g env target body Q E it s₂) E s := by
  have hl' := F.keep _ _ hl
  obtain ⟨h1, h2, h3⟩ := seq_facts F hl' (base_ne F hl)
  have hL : s.heap.IsList l vs.toArray := ⟨_, hl', rfl, n, rfl⟩
  refine wpAny_pyIter_list hL ?_
  refine loopT_of [] J (Walks.list hh _ l h1 vs.toArray) (fun b hb => ?_) (fun _ _ _ _ _ hp => nomatch hp) (fun i h st => by obtain ⟨o, e, _⟩ := st.1; exact ⟨o, e⟩)
    (fun i s' v Q' st hQ' => letGo_listiter st.1 hQ') ⟨⟨_, Heap.get?_push_size _ rfl, rfl, rfl⟩, hL.push _⟩ h2 h3
    (fun p hp => Nat.ne_of_lt (Heap.lt_size (N p hp).1)) (F.push _) (fun p hp => ⟨Heap.get?_push_of_some _ (N p hp).1, (N p hp).2⟩) h0 (fun i v m₁ nx s₁ oI _ hP => turn i v m₁ nx s₁ _ oI (by simpa using hP)) (by simpa using done)
  rcases List.mem_cons.mp hb with e | hb
  · exact .inl e
  · exact .inr (.inl ⟨_, (List.mem_singleton.mp hb) ▸ hl⟩)
end

/-- a comprehension that takes the first of each pair -/
theorem comp_first {prog : Program} {w : World} {A : Around} {g : Heap} {L : Addr} {m : Str → Option Value} {env : Env} {x x₂ : Str} {px : Pos} {scope : Scope} {cl : List (Str × Addr)} {s : Shared} {S : List (Addr × Obj) → Prop} {Fin : List Value → List (Addr × Obj) → Prop}
    {vs firsts : List Value} {news : List (Addr × Obj)} (hlen : firsts.length = vs.length) (hS : S news)
    (hit : ∀ (i : Nat) (v : Value), vs[i]? = some v → ∃ t n v₁ v₂, v = Value.ref t ∧ (t, tupO [v₁, v₂] n) ∈ news ∧ firsts[i]? = some v₁)
    (hk : (compEnvC scope cl 0 env).scope.kind = .function) (hx : ∀ C, (compEnvC scope cl C env).kindOf x = some .local) (hd : (x == ("__debug__" : Str)) = false)
    (fin : Fin firsts news) :
    LCp.CompRestP prog w A g L m env (.Name x px) x x₂ scope cl s S (fun i v => vs.toArray[i]? = some v) Fin vs.toArray.size 0 [] news := by
  have key : ∀ (j i : Nat), i + j = vs.length → LCp.CompRestP prog w A g L m env (.Name x px) x x₂ scope cl s S (fun i v => vs.toArray[i]? = some v) Fin j i (firsts.take i) news := by
    intro j
    induction j with
    | zero =>
      intro i hi
      refine LCp.CompRestP.zero ?_
      rw [List.take_of_length_le (by omega)]
      exact fin
    | succ j ih =>
      intro i hi
      refine LCp.CompRestP.succ fun v hv => ?_
      obtain ⟨t, n, v₁, v₂, rfl, hm, hf⟩ := hit i v (by simpa using hv)
      refine ⟨t, _, v₁, v₂, n, rfl, hm, rfl, rfl, fun I oI C oC D m₂ h tk E' hC h1 h2 F N off ne => ?_⟩
      have hns : h.Ns C m₂ := hC.ns (N.get (.tail _ (.head _)))
      refine wpAny_Name (wpAny_loadName_local (by exact hk) (hx C) hns h1 ?_) hd
      refine LCg.CompEnd.intro F N news (fun _ hp => hp) off hS ?_
      have e : firsts.take i ++ [v₁] = firsts.take (i + 1) := by rw [List.take_add_one, hf]; rfl
      rw [e]
      exact ih (i + 1) (by omega)
  have := key vs.length 0 (by omega)
  rw [List.take_zero] at this
  rw [List.size_toArray]
  exact this

local macro_rules | `(tactic| walk_at "eval Name") => `(tactic| (k_here; (with_reducible show wpAny _ _ (eval (Expr.Name _ _) (envOfC _ _ _ _ _)) _ _ _); k_dflt (refine' nameX_L ?F ?v ?_ ?a ?b; (case a => rfl); (case b => rfl); (case F => k_asm); (case v => first | exact rfl | assumption); k_whole)))
local macro_rules | `(tactic| walk_at "CELL") => `(tactic| (k_dflt (refine' nameX_C ?N ?c ?m ?d ?_ ?a ?b; (case a => rfl); (case b => rfl); (case N => k_asm); (case c => rfl); (case m => k_mem); (case d => assumption); k_whole)))
local macro_rules | `(tactic| walk_at "eval Name") => `(tactic| (k_here; (with_reducible show wpAny _ _ (eval (Expr.Name (Str.ofString "source") _) (envOfC _ _ _ _ _)) _ _ _); walk_at "CELL"))
local macro_rules | `(tactic| walk_at "CELLC") => `(tactic| (k_dflt (refine' kcf_cell ?N ?c ?m ?d ?_ ?a ?b ?e; (case a => rfl); (case b => rfl); (case e => decide); (case N => k_asm); (case c => rfl); (case m => k_mem); (case d => assumption); k_whole)))
local macro_rules | `(tactic| walk_at "eval Name") => `(tactic| (k_here; (with_reducible show wpAny _ _ (eval (Expr.Name (Str.ofString "source") _) (compEnvC _ _ _ _)) _ _ _); walk_at "CELLC"))

local macro_rules | `(tactic| walk_at "call type:tuple") => `(tactic| (k_here; (with_reducible show wpAny _ _ (call (Value.type _) [Value.ref _]) _ _ _); k_dflt (refine' tuple_K ?F ?N ?m ?z ?_; (case F => k_asm); (case N => k_asm); (case m => k_mem); (case z => walk_at "SIZE")); intro D' h' F' N' l1; (try k_lt l1); (try k_sweep)))
local macro_rules | `(tactic| walk_at "SrcLP") => `(tactic| (k_here; refine Stop.of ?_))
local macro_rules | `(tactic| walk_at "eval ListComp") => `(tactic| (k_here; refine Stop.of ?_))
local macro_rules | `(tactic| walk_at "CompSrc") => `(tactic| (k_here; refine Stop.of ?_))


theorem loperand_K {w : World} {mean : ExcName → Option Value} {mg mb : Str → Option Value} {g : Heap} {dp un : Nat} {fr : Option (List Env)} {gd : Option (List Code)} {s : Shared} {Q E : Value → Shared → Prop} {L src : Addr} {o : Obj} {m : Str → Option Value} {news rest : List (Addr × Obj)}
    (F : Fr g L s.heap m) (N : News g L s.heap news) (X : (Mine.K w.params).In g) (T : Top Mine.view (looseW Mine.view []) mean mg mb g)
    (hr : Room dp un 4) (P : Pull src o news rest) (hoff : Off src rest) (hso : SrcO o)
    (post : ∀ r x tl o' h' tk', Fr g L h' m → News g L h' ((src, o') :: (rest ++ tl)) → Off src tl → Apart tl rest → SrcO o' → Operand.good x → Is (In tl) r x.drawn → Q r { s with heap := h', toks := tk' }) :
    wpAny (model PySem.Challenge.rw_xm0583_01.row.prog w) (Around.mk none dp fr gd un) (call (.ref 171) [.ref src]) Q E s := by
  have hs := N _ P.mem
  refine loperand_ok X T hr F.keep hs.1 hs.2.2 hso fun r x tl o' h' tk' hx ho ho' hf hg hi => ?_
  obtain ⟨F', N', o1, o2⟩ := srcStep tl F N P hoff hx ho hf
  exact post r x tl o' h' tk' F' N' o1 o2 ho' hg hi

theorem off3_of {I C D : Addr} {l : List (Addr × Obj)} (h1 : Off I l) (h2 : Off C l) (h3 : Off D l) : LCg.Off3 I C D l := LCg.Off3.of fun p hp => ⟨h1 p hp, h2 p hp, h3 p hp⟩
theorem apart_off {a : Addr} {o : Obj} {l l' : List (Addr × Obj)} (h : Apart l l') (hm : (a, o) ∈ l') : Off a l := fun p hp => h p hp _ hm

/-- a comprehension that draws n operands -/
theorem comp_draw {prog : Program} {w : World} {A : Around} {g : Heap} {L : Addr} {m : Str → Option Value} {env : Env} {elt : Expr} {x : Str} {scope : Scope} {cl : List (Str × Addr)} {s : Shared} {P : Nat → Value → Prop} {Fin : List Value → List (Addr × Obj) → Prop} {n : Nat} {src : Addr} {o₀ : Obj} {r0 : List (Addr × Obj)}
    {δ : Type} (dr : δ → D) (good : δ → Prop) (so : SrcO o₀)
    (elem : ∀ I oI C oC D m₂ h tk o tl ys (E' : Value → Shared → Prop) (Q' : Value → Shared → Prop), Fr g L h m → News g L h ((I, oI) :: (C, oC) :: (D, lstO ys ys.length) :: (src, o) :: (r0 ++ tl)) →
      @Ne Nat I src → @Ne Nat C src → @Ne Nat D src → Off src (r0 ++ tl) → LCg.NsObj oC m₂ → SrcO o →
      (∀ r x tl' o' h' tk', Fr g L h' m → News g L h' ((src, o') :: (((I, oI) :: (C, oC) :: (D, lstO ys ys.length) :: (r0 ++ tl)) ++ tl')) → Off src tl' → Apart tl' ((I, oI) :: (C, oC) :: (D, lstO ys ys.length) :: (r0 ++ tl)) → SrcO o' → good x → Is (In tl') r (dr x) → Q' r { s with heap := h', toks := tk' }) →
      wpAny (model prog w) A (eval elt (compEnvC scope cl C env)) Q' E' { s with heap := h, toks := tk })
    (off0 : Off src r0)
    (fin : ∀ ys o tl (xs : List δ), xs.length = n → IsAll (In tl) ys (xs.map dr) → (∀ x ∈ xs, good x) → Off src tl → SrcO o → Apart tl r0 → Fin ys ((src, o) :: (r0 ++ tl))) :
    LCg.CompRest prog w A g L m env elt x scope cl s (fun _ => True) P Fin n 0 [] ((src, o₀) :: r0) := by
  have key : ∀ (j i : Nat) (ys : List Value) (o : Obj) (tl : List (Addr × Obj)) (xs : List δ), i + j = n → xs.length = i → IsAll (In tl) ys (xs.map dr) → (∀ x ∈ xs, good x) → Off src tl → SrcO o → Apart tl r0 →
      LCg.CompRest prog w A g L m env elt x scope cl s (fun _ => True) P Fin j i ys ((src, o) :: (r0 ++ tl)) := by
    intro j
    induction j with
    | zero =>
      intro i ys o tl xs hi hl h1 h2 h3 h4 h5
      exact LCg.CompRest.zero (fin ys o tl xs (by omega) h1 h2 h3 h4 h5)
    | succ j ih =>
      intro i ys o tl xs hi hl h1 h2 h3 h4 h5
      refine LCg.CompRest.succ fun v I oI C oC D m₂ h tk E' hP hC hx F N off ne => ?_
      have off' := off.mem
      have a1 := off' _ (.head _)
      refine elem I oI C oC D m₂ h tk o tl ys E' _ F N (Ne.symm a1.1) (Ne.symm a1.2.1) (Ne.symm a1.2.2) (Off.app off0 h3) hC h4 fun r y tl' o' h' tk' F' N' b1 b2 b3 b4 b5 => ?_
      have hT : ∀ p ∈ r0 ++ (tl ++ tl'), p ∈ (I, oI) :: (C, oC) :: (D, lstO ys ys.length) :: (r0 ++ tl) ++ tl' := fun p hp => by
        rw [← List.append_assoc] at hp
        exact .tail _ (.tail _ (.tail _ hp))
      refine LCg.CompEnd.intro F' N' ((src, o') :: (r0 ++ (tl ++ tl'))) ?_ ?_ trivial ?_
      · intro p hp
        rcases List.mem_cons.mp hp with rfl | hp
        · exact .tail _ (.head _)
        rcases List.mem_cons.mp hp with rfl | hp
        · exact .tail _ (.tail _ (.head _))
        rcases List.mem_cons.mp hp with rfl | hp
        · exact .tail _ (.tail _ (.tail _ (.head _)))
        rcases List.mem_cons.mp hp with rfl | hp
        · exact .head _
        · exact .tail _ (hT p hp)
      · refine off3_of ?_ ?_ ?_
        · refine Off.cons a1.1 (fun p hp => ?_)
          rw [← List.append_assoc] at hp
          rcases List.mem_append.mp hp with hp | hp
          · exact (off' p (.tail _ hp)).1
          · exact b2 p hp _ (.head _)
        · refine Off.cons a1.2.1 (fun p hp => ?_)
          rw [← List.append_assoc] at hp
          rcases List.mem_append.mp hp with hp | hp
          · exact (off' p (.tail _ hp)).2.1
          · exact b2 p hp _ (.tail _ (.head _))
        · refine Off.cons a1.2.2 (fun p hp => ?_)
          rw [← List.append_assoc] at hp
          rcases List.mem_append.mp hp with hp | hp
          · exact (off' p (.tail _ hp)).2.2
          · exact b2 p hp _ (.tail _ (.tail _ (.head _)))
      · refine ih (i + 1) (ys ++ [r]) o' (tl ++ tl') (xs ++ [y]) (by omega) (by rw [List.length_append, hl]; rfl) ?_ ?_ (Off.app h3 b1) b3 (fun p hp q hq => ?_)
        · rw [List.map_append]
          exact (h1.mono fun a o q => List.mem_append_left _ q).append (.cons (b5.mono fun a o q => List.mem_append_right _ q) .nil)
        · intro z hz
          rcases List.mem_append.mp hz with hz | hz
          · exact h2 z hz
          · rw [List.mem_singleton.mp hz]; exact b4
        · rcases List.mem_append.mp hp with hp | hp
          · exact h5 p hp q hq
          · exact b2 p hp q (.tail _ (.tail _ (.tail _ (List.mem_append_left _ hq))))
  have := key n 0 [] o₀ [] [] (by omega) rfl .nil (fun _ h => nomatch h) Off.nil so (fun _ h => nomatch h)
  rwa [List.append_nil] at this

theorem firsts_of {φ : Addr → Obj → Prop} {δ : Type} (d1 d2 : δ → D) : ∀ {ys : List Value} {xs : List δ}, IsAll φ ys (xs.map fun x => D.tup [d1 x, d2 x]) →
    ∃ fs : List Value, fs.length = ys.length ∧ IsAll φ fs (xs.map d1) ∧ ∀ (i : Nat) (v : Value), ys[i]? = some v → ∃ t n v₁ v₂, v = Value.ref t ∧ φ t (tupO [v₁, v₂] n) ∧ fs[i]? = some v₁
  | _, [], .nil => ⟨[], rfl, .nil, fun i v h => by simp at h⟩
  | _, x :: xs, .cons a b => by
    obtain ⟨fs, h1, h2, h3⟩ := firsts_of d1 d2 b
    obtain ⟨t, v₁, v₂, n, rfl, p, q1, q2⟩ := a.tup2
    refine ⟨v₁ :: fs, by simp [h1], .cons q1 h2, fun i v h => ?_⟩
    cases i with
    | zero => simp at h; subst h; exact ⟨t, n, v₁, v₂, rfl, p, rfl⟩
    | succ i => exact h3 i v (by simpa using h)

theorem Operand.good.ok {x : Operand} (h : x.good) : x.ok := by
  cases x with
  | copy p => exact Nat.le_trans h.len (by decide)
  | move p => exact Nat.le_trans h.len (by decide)
  | const n => trivial

theorem loperands_ok {w : World} {mean : ExcName → Option Value} {mg mb : Str → Option Value} {g₀ : Heap} (X : (Mine.K w.params).In g₀) (T : Top Mine.view (looseW Mine.view []) mean mg mb g₀)
    {dp un : Nat} {fr : Option (List Env)} {gd : Option (List Code)} {s : Shared} {Q E : Value → Shared → Prop} {src : Addr} {o : Obj} {most : Int} {mt : Tok}
    (hr : Room dp un 5) (hk : g₀.StaysIn s.heap) (hs : s.heap.get? src = some o) (hs₀ : g₀.get? src = none) (hso : SrcO o) (h1 : 0 ≤ most) (h2 : most ≤ 3)
    (post : ∀ r xs tl o' h' tk', Heap.ExtBut src s.heap h' → h'.get? src = some o' → SrcO o' → Fresh tl s.heap h' → (∀ x ∈ xs, Operand.good x) → xs.length ≤ 3 → Is (In tl) r (.tup [.tup (xs.map Operand.d), .lst ((allReads xs).map D.int)]) → Q r { s with heap := h', toks := tk' }) :
    wpAny (model PySem.Challenge.rw_xm0583_01.row.prog w) (Around.mk none dp fr gd un) (call (.ref 176) [.ref src, .int most mt]) Q E s := by
  w_top off
  revert X
  k_fill
  intro X
  k_dflt (refine' enterC [(src, o)] X T hk ?ko ?k6 ?k7 ?k8 ?k9 ?kB ?kD ?_ ?c2 ?c3 ?c4)
  walk_at "ENTERC"
  clear X T
  intro g L h tk cells F N Y X T hold hlt
  (try k_lt hlt)
  k_cells Y
  (try simp only [List.cons_append, List.nil_append] at N)
  k_with_none
  have fin : ∀ r xs news rest o' h' tk' m', Fr g L h' m' → News g L h' news → Pull src o' news rest → Off src rest → SrcO o' → (∀ x ∈ xs, Operand.good x) → xs.length ≤ 3 → Is (In rest) r (.tup [.tup (xs.map Operand.d), .lst ((allReads xs).map D.int)]) → Q r { s with heap := h', toks := tk' } :=
    fun r xs news rest o' h' tk' m' FF NN PP OO so gd hl hi => post r xs rest o' h' tk' (Old.ext hold FF) (NN _ PP.mem).1 so (Old.freshs hold NN PP.sub OO) gd hl hi
  walk_at "GO"
  refine Stop.go (LCg.ListComp_U (F₀ := by k_asm) (by with_unfolding_all rfl) (by decide) (by rfl) (by decide) (by rfl) ?_)
  walk_at "GO"
  rename IsRange _ _ _ _ _ _ _ _ => hR
  rename Fr _ _ _ _ => FF
  rename News _ _ _ _ => NN
  rename SrcO _ => so2
  refine Stop.go (LCg.CompSrc.range rfl FF NN hR (small_one (by decide) (by decide) (by omega) (by omega)) (rangeSize_nat _ _) (by rw [PySem.sizeLine_eq]; omega) (fun g' => comp_draw (r0 := [_]) Operand.drawn Operand.good so2 ?_ ?_ ?_))
  · intro I oI C oC D m₂ h tk o tl ys E' Q' F N a1 a2 a3 a4 hC so hQ
    clear FF NN hR
    walk_at "GO"
    refine Stop.go (loperand_K (by assumption) (by assumption) X T (Room.deep hr (by decide)) (by walk_at "PULL") (by walk_at "OFF") so fun r x tl' o' h' tk' F' N' b1 b2 so' gd hi => ?_)
    exact hQ r x tl' o' h' _ F' N' b1 b2 so' gd hi
  · walk_at "OFF"
  · intro ys o tl xs hlen hI hgd off so _
    intro D h tk F N off1
    clear FF NN hR
    have hxs : xs.length ≤ 3 := by omega
    have dd1 : @Ne Nat D src := Ne.symm off1.1
    have e9 := hI.length
    rw [List.length_map] at e9
    walk_at "GO"
    refine Stop.go (For_invTF (by assumption) ?_ (by intro _; rfl))
    walk_at "GO"
    rename Fr _ _ _ _ => FF
    rename News _ _ _ _ => NN
    refine Stop.go (led_loopT (fun i m nx => ∃ rp us n, m (Str.ofString "reads") = some (.ref rp) ∧ m (Str.ofString "some") = some (.ref D) ∧ nx = (rp, lstO us n) :: (D, LCg.lst ys) :: (src, o) :: tl ∧ IntsAre us (allReads (xs.take i)) ∧ @Ne Nat rp src)
      rfl FF (News.pick NN (by k_mem) (News.pick NN (by k_mem) (News.pick NN (by k_mem) (Mine.News.sub NN (fun p hp => by k_mem))))) (.tail _ (.head _)) (fun i m nx ⟨rp, us, n, _, _, e, _⟩ => by rw [e]; exact .tail _ (.head _))
      ⟨_, [], _, rfl, rfl, rfl, .nil, by omega⟩ ?_ ?_)
    · rintro i v m₁ nx ⟨hp, gs, dr, tk, os⟩ I oI hv ⟨rp, us, n, e1, e2, rfl, hi, n1⟩ off (F : Fr g L hp _) (N : News g L hp _)
      obtain ⟨dd, hd, hv'⟩ := hI.get i v hv
      obtain ⟨x, hx, rfl⟩ : ∃ x, xs[i]? = some x ∧ x.drawn = dd := by simpa using hd
      obtain ⟨a, v1, v2, n2, rfl, p1, q1, q2⟩ := hv'.tup2
      obtain ⟨c, iv, n3, rfl, p3, q4⟩ := q2.lst'
      have q5 := q4.ints
      rw [allReads_take xs i x hx]
      have b1 := allReads_le (xs.take i) fun y hy => (hgd y (List.mem_of_mem_take hy)).ok
      have b2 : (xs.take i).length ≤ xs.length := by rw [List.length_take]; omega
      have b3 := x.reads_le (hgd x (List.mem_of_getElem? hx)).ok
      clear FF NN
      walk_at "GO"
      rename Fr _ _ _ _ => FF
      rename News _ _ _ _ => NN
      refine TurnT.intro ((_, lstO _ _) :: (D, _) :: (src, o) :: tl) FF (News.pick NN (by k_mem) (News.pick NN (by k_mem) (News.pick NN (by k_mem) (News.pick NN (by k_mem) (Mine.News.sub NN (fun p hp => by k_mem)))))) (Off.cons (by k_ne) (fun p hp => off p (.tail _ hp)))
        ⟨_, _, _, rfl, by exact e2, rfl, by assumption, by omega⟩
    · rintro m₁ nx h tk ⟨rp, us, n, e1, e2, rfl, hi, n1⟩ (F : Fr g L h _) (N : News g L h _)
      clear FF NN
      rw [e9, List.take_length] at hi
      walk_at "GO"
      refine Stop.go (LCp.ListComp_P (F₀ := by k_asm) (by with_unfolding_all rfl) (by decide) (by rfl) (by decide) (by rfl) (by rfl) (by decide) ?_)
      walk_at "GO"
      rename Fr _ _ _ _ => FF
      rename News _ _ _ _ => NN
      obtain ⟨fs, f1, f2, f3⟩ := firsts_of (φ := In tl) Operand.d (fun x => Mine.D.lst (x.reads.map Mine.D.int)) hI
      refine Stop.go (LCp.SrcLP.ledger rfl FF NN (.tail _ (.head _)) (by rw [List.size_toArray, PySem.sizeLine_eq]; omega) (fun g' => comp_first f1 (.inr ⟨_, .tail _ (.head _), rfl, _, rfl⟩) (fun i v hv => ?_) rfl (fun _ => rfl) (by decide) ?_))
      · obtain ⟨t, n, v₁, v₂, e, hm, hf⟩ := f3 i v hv
        exact ⟨t, n, v₁, v₂, e, .tail _ (.tail _ (.tail _ hm)), hf⟩
      · intro D2 h tk F N off2
        clear FF NN
        have f4 : fs.length ≤ 3 := by omega
        have dd2 : @Ne Nat D2 src := Ne.symm off2.2.2.1
        walk_at "GO"
        rename Fr _ _ _ _ => FF
        rename News _ _ _ _ => NN
        exact fin _ xs _ _ _ _ _ _ FF NN (by walk_at "PULL") (by walk_at "OFF") so hgd hxs
          (.tup (by k_mem) (.cons (.tup (by k_mem) (f2.mono fun a o q => by k_mem)) (.cons (.lst (by k_mem) (IsAll.ofInts hi)) .nil)))


theorem loperands_K {w : World} {mean : ExcName → Option Value} {mg mb : Str → Option Value} {g : Heap} {dp un : Nat} {fr : Option (List Env)} {gd : Option (List Code)} {s : Shared} {Q E : Value → Shared → Prop} {L src : Addr} {o : Obj} {most : Int} {mt : Tok} {m : Str → Option Value} {news rest : List (Addr × Obj)}
    (F : Fr g L s.heap m) (N : News g L s.heap news) (X : (Mine.K w.params).In g) (T : Top Mine.view (looseW Mine.view []) mean mg mb g)
    (hr : Room dp un 5) (P : Pull src o news rest) (hoff : Off src rest) (hso : SrcO o) (h1 : 0 ≤ most) (h2 : most ≤ 3)
    (post : ∀ r xs tl o' h' tk', Fr g L h' m → News g L h' ((src, o') :: (rest ++ tl)) → Off src tl → Apart tl rest → SrcO o' → (∀ x ∈ xs, Operand.good x) → xs.length ≤ 3 → Is (In tl) r (.tup [.tup (xs.map Operand.d), .lst ((allReads xs).map D.int)]) → Q r { s with heap := h', toks := tk' }) :
    wpAny (model PySem.Challenge.rw_xm0583_01.row.prog w) (Around.mk none dp fr gd un) (call (.ref 176) [.ref src, .int most mt]) Q E s := by
  have hs := N _ P.mem
  refine loperands_ok X T hr F.keep hs.1 hs.2.2 hso h1 h2 fun r x tl o' h' tk' hx ho ho' hf hg hl hi => ?_
  obtain ⟨F', N', o1, o2⟩ := srcStep tl F N P hoff hx ho hf
  exact post r x tl o' h' tk' F' N' o1 o2 ho' hg hl hi

def Rvalue.good : Rvalue → Prop
  | .ref p => p.good
  | .discr p => p.good
  | r => (∀ x ∈ r.ops, x.good) ∧ r.ops.length ≤ 3
def Rvalue.drawn (r : Rvalue) : D := .tup [r.d, .lst (r.reads.map D.int)]
theorem pair_reads (x y : Operand) : allReads [x, y] = x.reads ++ y.reads := by simp [allReads]
theorem one_reads (x : Operand) : allReads [x] = x.reads := by simp [allReads]
theorem two {a b v : Value} {i : Nat} (h : [a, b][i]? = some v) : v = a ∨ v = b := by
  have := List.mem_of_getElem? h
  simpa using this

theorem lrvalue_ok {w : World} {mean : ExcName → Option Value} {mg mb : Str → Option Value} {g₀ : Heap} (X : (Mine.K w.params).In g₀) (T : Top Mine.view (looseW Mine.view []) mean mg mb g₀)
    {dp un : Nat} {fr : Option (List Env)} {gd : Option (List Code)} {s : Shared} {Q E : Value → Shared → Prop} {src : Addr} {o : Obj}
    (hr : Room dp un 6) (hk : g₀.StaysIn s.heap) (hs : s.heap.get? src = some o) (hs₀ : g₀.get? src = none) (hso : SrcO o)
    (post : ∀ r x tl o' h' tk', Heap.ExtBut src s.heap h' → h'.get? src = some o' → SrcO o' → Fresh tl s.heap h' → Rvalue.good x → Is (In tl) r x.drawn → Q r { s with heap := h', toks := tk' }) :
    wpAny (model PySem.Challenge.rw_xm0583_01.row.prog w) (Around.mk none dp fr gd un) (call (.ref 183) [.ref src]) Q E s := by
  w_top off
  revert X
  k_fill
  intro X
  k_dflt (refine' enter [(src, o)] X T hk ?ko ?k6 ?k7 ?k8 ?k9 ?kB ?_ ?c2 ?c3 ?c4 ?c5)
  walk_at "ENTER"
  clear X T
  intro g L h tk F N X T hold hL
  k_with_none
  have fin : ∀ r x news rest o' h' tk' m', Fr g L h' m' → News g L h' news → Pull src o' news rest → Off src rest → SrcO o' → Rvalue.good x → Is (In rest) r x.drawn → Q r { s with heap := h', toks := tk' } :=
    fun r x news rest o' h' tk' m' FF NN PP OO so gd hi => post r x rest o' h' tk' (Old.ext hold FF) (NN _ PP.mem).1 so (Old.freshs hold NN PP.sub OO) gd hi
  walk_at "GO"
  · refine Stop.go (lplace_K (by assumption) (by assumption) X T (Room.deep hr (by decide)) (by walk_at "PULL") (by walk_at "OFF") (by assumption) (by decide) (by decide) fun r P tl o' h' tk' F' N' o1 o2 so hg hi => ?_)
    rw [List.nil_append] at N'
    obtain ⟨a, v1, v2, v3, n1, rfl, p1, q1, q2, q3⟩ := hi.tup3
    obtain ⟨t2, rfl⟩ := q2.int'
    obtain ⟨c, iv, n2, rfl, p3, q4⟩ := q3.lst'
    have q5 := q4.ints
    have hlen : P.idx.length ≤ 3 := Nat.le_trans (List.length_filterMap_le _ _) hg.len
    walk_at "GO"
    refine Stop.go (one_K (by assumption) (by assumption) X T (Room.deep hr (by decide)) (by walk_at "PULL") (by walk_at "OFF") (by assumption) (by k_mem) (Nat.le_of_ble_eq_true rfl) (Nat.le_of_ble_eq_true rfl) fun i v o2 h2 tk2 hv F2 N2 so2 => ?_)
    rcases two hv with rfl | rfl
    all_goals (clear hv; walk_at "GO"; rename Fr _ _ _ _ => FF; rename News _ _ _ _ => NN)
    · exact fin _ (.ref P) _ _ _ _ _ _ FF NN (by walk_at "PULL") (by walk_at "OFF") so2 hg
        (.tup (by k_mem) (.cons (.tup (by k_mem) (.cons (.str _ _) (.cons .none (.cons (.str _ _) (.cons (q1.mono fun a o q => by k_mem) .nil))))) (.cons (.lst (by k_mem) (IsAll.ofInts (by assumption))) .nil)))
    · exact fin _ (.discr P) _ _ _ _ _ _ FF NN (by walk_at "PULL") (by walk_at "OFF") so2 hg
        (.tup (by k_mem) (.cons (.tup (by k_mem) (.cons (.str _ _) (.cons (q1.mono fun a o q => by k_mem) .nil))) (.cons (.lst (by k_mem) (IsAll.ofInts (by assumption))) .nil)))
  · refine Stop.go (loperands_K (by assumption) (by assumption) X T (Room.deep hr (by decide)) (by walk_at "PULL") (by walk_at "OFF") (by assumption) (by decide) (by decide) fun r xs tl o' h' tk' F' N' o1 o2 so hg hl hi => ?_)
    rw [List.nil_append] at N'
    obtain ⟨a, v1, v2, n1, rfl, p1, q1, q2⟩ := hi.tup2
    obtain ⟨b, ov, n2, rfl, p2, q3⟩ := q1.tup'
    obtain ⟨c, iv, n3, rfl, p3, q4⟩ := q2.lst'
    walk_at "GO"
    refine Stop.go (one_K (by assumption) (by assumption) X T (Room.deep hr (by decide)) (by walk_at "PULL") (by walk_at "OFF") (by assumption) (by k_mem) (Nat.le_of_ble_eq_true rfl) (Nat.le_of_ble_eq_true rfl) fun i v o2 h2 tk2 hv F2 N2 so2 => ?_)
    rcases three hv with rfl | rfl | rfl
    all_goals (clear hv; walk_at "GO"; rename Fr _ _ _ _ => FF; rename News _ _ _ _ => NN)
    · exact fin _ (.tup xs) _ _ _ _ _ _ FF NN (by walk_at "PULL") (by walk_at "OFF") so2 ⟨hg, hl⟩
        (.tup (by k_mem) (.cons (.tup (by k_mem) (.cons (.str _ _) (.cons (.tup (by k_mem) (q3.mono fun a o q => by k_mem)) .nil))) (.cons (.lst (by k_mem) (q4.mono fun a o q => by k_mem)) .nil)))
    · exact fin _ (.arr xs) _ _ _ _ _ _ FF NN (by walk_at "PULL") (by walk_at "OFF") so2 ⟨hg, hl⟩
        (.tup (by k_mem) (.cons (.tup (by k_mem) (.cons (.str _ _) (.cons (.tup (by k_mem) (q3.mono fun a o q => by k_mem)) .nil))) (.cons (.lst (by k_mem) (q4.mono fun a o q => by k_mem)) .nil)))
    · exact fin _ (.adt xs) _ _ _ _ _ _ FF NN (by walk_at "PULL") (by walk_at "OFF") so2 ⟨hg, hl⟩
        (.tup (by k_mem) (.cons (.tup (by k_mem) (.cons (.str _ _) (.cons (.tup (by k_mem) (.cons (.str _ _) (.cons (.str _ _) (.cons (.tup (by k_mem) .nil) (.cons (.tup (by k_mem) .nil) .nil))))) (.cons (.int _ _) (.cons (.tup (by k_mem) (q3.mono fun a o q => by k_mem)) .nil))))) (.cons (.lst (by k_mem) (q4.mono fun a o q => by k_mem)) .nil)))
  · refine Stop.go (loperand_K (by assumption) (by assumption) X T (Room.deep hr (by decide)) (by walk_at "PULL") (by walk_at "OFF") (by assumption) fun r x tl o' h' tk' F' N' o1 o2 so hg hi => ?_)
    rw [List.nil_append] at N'
    obtain ⟨a, v1, v2, n1, rfl, p1, q1, q2⟩ := hi.tup2
    obtain ⟨c, iv, n2, rfl, p3, q4⟩ := q2.lst'
    have q5 := q4.ints
    have b1 := x.reads_le hg.ok
    walk_at "GO"
    refine Stop.go (loperand_K (by assumption) (by assumption) X T (Room.deep hr (by decide)) (by walk_at "PULL") (by walk_at "OFF") (by assumption) fun r y tl2 o2' h2' tk2' F2' N2' o12 o22 so2 hg2 hi2 => ?_)
    obtain ⟨a2, w1, w2, n12, rfl, p12, q12, q22⟩ := hi2.tup2
    obtain ⟨c2, iv2, n22, rfl, p32, q42⟩ := q22.lst'
    have q52 := q42.ints
    have b2 := y.reads_le hg2.ok
    walk_at "GO"
    · refine Stop.go (one_K (by assumption) (by assumption) X T (Room.deep hr (by decide)) (by walk_at "PULL") (by walk_at "OFF") (by assumption) (by k_mem) (Nat.le_of_ble_eq_true rfl) (Nat.le_of_ble_eq_true rfl) fun i v o3 h3 tk3 hv F3 N3 so3 => ?_)
      rcases two hv with rfl | rfl
      all_goals (clear hv; walk_at "GO"; rename Fr _ _ _ _ => FF; rename News _ _ _ _ => NN)
      · exact fin _ (.binary x y) _ _ _ _ _ _ FF NN (by walk_at "PULL") (by walk_at "OFF") so3 ⟨(fun z hz => by rcases List.mem_cons.mp hz with rfl | hz; exact hg; rw [List.mem_singleton.mp hz]; exact hg2), Nat.le_of_ble_eq_true rfl⟩
          (.tup (by k_mem) (.cons (.tup (by k_mem) (.cons (.str _ _) (.cons (.str _ _) (.cons (q1.mono fun a o q => by k_mem) (.cons (q12.mono fun a o q => by k_mem) .nil))))) (.cons (.lst (by k_mem) (by rw [show (Rvalue.binary x y).reads = x.reads ++ y.reads from pair_reads x y]; exact IsAll.ofInts (by assumption))) .nil)))
      · exact fin _ (.checked x y) _ _ _ _ _ _ FF NN (by walk_at "PULL") (by walk_at "OFF") so3 ⟨(fun z hz => by rcases List.mem_cons.mp hz with rfl | hz; exact hg; rw [List.mem_singleton.mp hz]; exact hg2), Nat.le_of_ble_eq_true rfl⟩
          (.tup (by k_mem) (.cons (.tup (by k_mem) (.cons (.str _ _) (.cons (.str _ _) (.cons (q1.mono fun a o q => by k_mem) (.cons (q12.mono fun a o q => by k_mem) .nil))))) (.cons (.lst (by k_mem) (by rw [show (Rvalue.checked x y).reads = x.reads ++ y.reads from pair_reads x y]; exact IsAll.ofInts (by assumption))) .nil)))
    · refine Stop.go (one_K (by assumption) (by assumption) X T (Room.deep hr (by decide)) (by walk_at "PULL") (by walk_at "OFF") (by assumption) (by k_mem) (Nat.le_of_ble_eq_true rfl) (Nat.le_of_ble_eq_true rfl) fun i v o3 h3 tk3 hv F3 N3 so3 => ?_)
      rcases four hv with rfl | rfl | rfl | rfl
      all_goals (clear hv; walk_at "GO"; rename Fr _ _ _ _ => FF; rename News _ _ _ _ => NN)
      · exact fin _ (.use x) _ _ _ _ _ _ FF NN (by walk_at "PULL") (by walk_at "OFF") so3 ⟨(fun z hz => by rw [List.mem_singleton.mp hz]; exact hg), Nat.le_of_ble_eq_true rfl⟩
          (.tup (by k_mem) (.cons (.tup (by k_mem) (.cons (.str _ _) (.cons (q1.mono fun a o q => by k_mem) .nil))) (.cons (.lst (by k_mem) (by rw [show (Rvalue.use x).reads = x.reads from one_reads x]; exact q4.mono fun a o q => by k_mem)) .nil)))
      · exact fin _ (.box x) _ _ _ _ _ _ FF NN (by walk_at "PULL") (by walk_at "OFF") so3 ⟨(fun z hz => by rw [List.mem_singleton.mp hz]; exact hg), Nat.le_of_ble_eq_true rfl⟩
          (.tup (by k_mem) (.cons (.tup (by k_mem) (.cons (.str _ _) (.cons (q1.mono fun a o q => by k_mem) .nil))) (.cons (.lst (by k_mem) (by rw [show (Rvalue.box x).reads = x.reads from one_reads x]; exact q4.mono fun a o q => by k_mem)) .nil)))
      · exact fin _ (.unary x) _ _ _ _ _ _ FF NN (by walk_at "PULL") (by walk_at "OFF") so3 ⟨(fun z hz => by rw [List.mem_singleton.mp hz]; exact hg), Nat.le_of_ble_eq_true rfl⟩
          (.tup (by k_mem) (.cons (.tup (by k_mem) (.cons (.str _ _) (.cons (.str _ _) (.cons (q1.mono fun a o q => by k_mem) .nil)))) (.cons (.lst (by k_mem) (by rw [show (Rvalue.unary x).reads = x.reads from one_reads x]; exact q4.mono fun a o q => by k_mem)) .nil)))
      · exact fin _ (.cast x) _ _ _ _ _ _ FF NN (by walk_at "PULL") (by walk_at "OFF") so3 ⟨(fun z hz => by rw [List.mem_singleton.mp hz]; exact hg), Nat.le_of_ble_eq_true rfl⟩
          (.tup (by k_mem) (.cons (.tup (by k_mem) (.cons (.str _ _) (.cons (q1.mono fun a o q => by k_mem) (.cons (.tup (by k_mem) (.cons (.str _ _) .nil)) .nil)))) (.cons (.lst (by k_mem) (by rw [show (Rvalue.cast x).reads = x.reads from one_reads x]; exact q4.mono fun a o q => by k_mem)) .nil)))

section

theorem newTuple_P {M : Model} {A : Around} {E : Value → Shared → Prop} {s : Shared} {g : Heap} {L src : Addr} {o : Obj} {m : Str → Option Value} {news rest : List (Addr × Obj)} {vs : List Value} {Q : Value → Shared → Prop} (F : Fr g L s.heap m) (N : News g L s.heap news) (so : SrcO o) (P : Pull src o news rest)
    (h : ∀ D h', Fr g L h' m → News g L h' ((D, tupO vs 0) :: news) → @Ne Nat D src → Q (.ref D) { s with heap := h' }) (hz : vs.length ≤ sizeLine) : wpAny M A (newTuple vs) Q E s :=
  kup_newTuple F N (fun D h' F' N' l1 => h D h' F' N' (Nat.ne_of_gt (l1 _ P.mem))) hz
theorem newList_P {M : Model} {A : Around} {E : Value → Shared → Prop} {s : Shared} {g : Heap} {L src : Addr} {o : Obj} {m : Str → Option Value} {news rest : List (Addr × Obj)} {vs : List Value} {Q : Value → Shared → Prop} (F : Fr g L s.heap m) (N : News g L s.heap news) (so : SrcO o) (P : Pull src o news rest)
    (h : ∀ D h', Fr g L h' m → News g L h' ((D, lstO vs 0) :: news) → @Ne Nat D src → Q (.ref D) { s with heap := h' }) (hz : vs.length ≤ sizeLine) : wpAny M A (newList vs) Q E s :=
  newList_K F N (fun D h' F' N' l1 => h D h' F' N' (Nat.ne_of_gt (l1 _ P.mem))) hz
theorem add_P {prog : Program} {w : World} {A : Around} {E : Value → Shared → Prop} {s : Shared} {g : Heap} {L src a b : Addr} {o : Obj} {m : Str → Option Value} {news rest : List (Addr × Obj)} {vs us : List Value} {n k : Nat} {ns ms : List Int} {Q : Value → Shared → Prop} (F : Fr g L s.heap m) (N : News g L s.heap news) (so : SrcO o) (P : Pull src o news rest)
    (ha : (a, lstO vs n) ∈ news) (hb : (b, lstO us k) ∈ news) (hi : IntsAre vs ns) (hj : IntsAre us ms)
    (h : ∀ D ws h', Fr g L h' m → News g L h' ((D, lstO ws 0) :: news) → @Ne Nat D src → IntsAre ws (ns ++ ms) → Q (.ref D) { s with heap := h' })
    (hz : ns.length + ms.length ≤ sizeLine) : wpAny (model prog w) A (binaryOp .Add (.ref a) (.ref b)) Q E s :=
  kmk_add_ints F N (N.isList ha) (N.isList hb) hi hj (fun D ws h' F' N' l1 hI => h D ws h' F' N' (Nat.ne_of_gt (l1 _ P.mem)) hI) hz

theorem led_item {prog : Program} {w : World} {A : Around} {E : Value → Shared → Prop} {s : Shared} {g : Heap} {L a : Addr} {news : List (Addr × Obj)} {value slice : Expr} {vs : List Value} {n j : Nat} {k : Int} {u : Tok} {x : Value} {Q : Value → Shared → Prop} (N : News g L s.heap news) (hm : (a, tupO vs n) ∈ news)
    (hlo : -(2 ^ 63) ≤ k) (hhi : k < 2 ^ 63) (hj : seqIndex? k vs.length = some j) (hx : vs[j]? = some x) (h : Q x s)
    (hs : subscripted slice false (.ref a) (.int k u) = operate [.ref a, .int k u] (getItem (.ref a) (.int k u)) := by with_unfolding_all rfl) :
    wpAny (model prog w) A (subscriptTail value slice (.ref a) (.int k u)) Q E s :=
  item_tupleT (isTup_of' (N _ hm).1) hlo hhi hj hx h hs

theorem lset_K {w : World} {mean : ExcName → Option Value} {mg mb : Str → Option Value} {g : Heap} {dp un : Nat} {fr : Option (List Env)} {gd : Option (List Code)} {s : Shared} {Q E : Value → Shared → Prop} {v : Value} {P : Place} {L : Addr} {m : Str → Option Value} {news : List (Addr × Obj)}
    (F : Fr g L s.heap m) (N : News g L s.heap news) (X : (Mine.K w.params).In g) (T : Top Mine.view (looseW Mine.view []) mean mg mb g)
    (hr : Room dp un 1) (hI : Is (At s.heap) v P.drawn) (hz : P.steps.length ≤ 64)
    (post : ∀ a vs n h' tk', Fr g L h' m → News g L h' ((a, lstO vs n) :: news) → (∀ p ∈ news, p.1 ≠ a) → IntsAre vs P.set → Q (.ref a) { s with heap := h', toks := tk' }) :
    wpAny (model PySem.Challenge.rw_xm0583_01.row.prog w) (Around.mk none dp fr gd un) (call (.ref 164) [v]) Q E s := by
  refine lset_ok X T hr F.keep hI hz fun a vs n h' tk' hs hf ha hi => ?_
  obtain ⟨F', N', off⟩ := News.keep1 F N hs hf ha
  exact post a vs n h' tk' F' N' off hi

local macro_rules | `(tactic| walk_at "subscriptTail") => `(tactic| (k_here; (with_reducible show wpAny _ _ (subscriptTail _ _ (Value.ref _) (Value.int _ _)) _ _ _); k_dflt (refine' led_item ?N ?m ?a ?b ?c ?d ?_; (case N => k_asm); (case m => k_mem); (case a => decide); (case b => decide); (case c => rfl); (case d => rfl); k_whole)))
local macro_rules | `(tactic| walk_at "newTuple") => `(tactic| (k_here; k_dflt (refine' newTuple_P ?F ?N ?so ?P ?_ ?z; (case F => k_asm); (case N => k_asm); (case so => assumption); (case P => walk_at "PULL"); (case z => walk_at "SIZE")); intro D' h' F' N' l1; (try k_sweep)))
local macro_rules | `(tactic| walk_at "newList") => `(tactic| (k_here; k_dflt (refine' newList_P ?F ?N ?so ?P ?_ ?z; (case F => k_asm); (case N => k_asm); (case so => assumption); (case P => walk_at "PULL"); (case z => walk_at "SIZE")); intro D' h' F' N' l1; (try k_sweep)))
local macro_rules | `(tactic| walk_at "INTS") => `(tactic| first | assumption | exact .nil | exact .cons _ _ .nil)
local macro_rules | `(tactic| walk_at "binaryOp Add ref ref") => `(tactic| (k_here; (with_reducible show wpAny _ _ (binaryOp _ (Value.ref _) (Value.ref _)) _ _ _); k_dflt (refine' add_P ?F ?N ?so ?P ?a ?b ?i ?j ?_ ?z; (case F => k_asm); (case N => k_asm); (case so => assumption); (case P => walk_at "PULL"); (case a => k_mem); (case b => k_mem); (case i => walk_at "INTS"); (case j => walk_at "INTS"); (case z => walk_at "SIZE")); intro D' ws' h' F' N' l1 hI'; (try k_sweep)))

def Term.drawn (t : Term) : D := .tup [t.d, .lst (t.reads.map D.int), .lst (t.more.map D.int)]
def ends (x : Operand) (xs : List Operand) (p q : Place) : List Term := [.goto, .switch x, .assert x, .call xs p, .drop q, .ret, .panic, .unreachable]

theorem lends_ok {w : World} {mean : ExcName → Option Value} {mg mb : Str → Option Value} {g₀ : Heap} (X : (Mine.K w.params).In g₀) (T : Top Mine.view (looseW Mine.view []) mean mg mb g₀)
    {dp un : Nat} {fr : Option (List Env)} {gd : Option (List Code)} {s : Shared} {Q E : Value → Shared → Prop} {src : Addr} {o : Obj}
    (hr : Room dp un 6) (hk : g₀.StaysIn s.heap) (hs : s.heap.get? src = some o) (hs₀ : g₀.get? src = none) (hso : SrcO o)
    (post : ∀ r x xs p q tl o' h' tk', Heap.ExtBut src s.heap h' → h'.get? src = some o' → SrcO o' → Fresh tl s.heap h' → Operand.good x → (∀ y ∈ xs, Operand.good y) → xs.length ≤ 3 → Place.good p → Place.good q → Is (In tl) r (.lst ((ends x xs p q).map Term.drawn)) → Q r { s with heap := h', toks := tk' }) :
    wpAny (model PySem.Challenge.rw_xm0583_01.row.prog w) (Around.mk none dp fr gd un) (call (.ref 190) [.ref src]) Q E s := by
  w_top off
  revert X
  k_fill
  intro X
  k_dflt (refine' enter [(src, o)] X T hk ?ko ?k6 ?k7 ?k8 ?k9 ?kB ?_ ?c2 ?c3 ?c4 ?c5)
  walk_at "ENTER"
  clear X T
  intro g L h tk F N X T hold hL
  k_with_none
  have fin : ∀ r x xs p q news rest o' h' tk' m', Fr g L h' m' → News g L h' news → Pull src o' news rest → Off src rest → SrcO o' → Operand.good x → (∀ y ∈ xs, Operand.good y) → xs.length ≤ 3 → Place.good p → Place.good q → Is (In rest) r (.lst ((ends x xs p q).map Term.drawn)) → Q r { s with heap := h', toks := tk' } :=
    fun r x xs p q news rest o' h' tk' m' FF NN PP OO so g1 g2 g3 g4 g5 hi => post r x xs p q rest o' h' tk' (Old.ext hold FF) (NN _ PP.mem).1 so (Old.freshs hold NN PP.sub OO) g1 g2 g3 g4 g5 hi
  walk_at "GO"
  refine Stop.go (loperand_K (by assumption) (by assumption) X T (Room.deep hr (by decide)) (by walk_at "PULL") (by walk_at "OFF") (by assumption) fun r x tl1 o1 h1 tk1 F1 N1 f1 e1 so1 g1 i1 => ?_)
  rw [List.nil_append] at N1
  obtain ⟨xa, xv, xr, n1, rfl, xm, xi, xl⟩ := i1.tup2
  obtain ⟨xc, xiv, n2, rfl, xm2, xl2⟩ := xl.lst'
  walk_at "GO"
  refine Stop.go (loperands_K (by assumption) (by assumption) X T (Room.deep hr (by decide)) (by walk_at "PULL") (by walk_at "OFF") (by assumption) (by decide) (by decide) fun r xs tl2 o2 h2 tk2 F2 N2 f2 e2 so2 g2 g3 i2 => ?_)
  obtain ⟨ya, yv, yr, n3, rfl, ym, yi, yl⟩ := i2.tup2
  obtain ⟨yb, yov, n4, rfl, ym1, yi2⟩ := yi.tup'
  obtain ⟨yc, yiv, n5, rfl, ym2, yl2⟩ := yl.lst'
  have yint := yl2.ints
  walk_at "GO"
  refine Stop.go (lplace_K (by assumption) (by assumption) X T (Room.deep hr (by decide)) (by walk_at "PULL") (by walk_at "OFF") (by assumption) (by decide) (by decide) fun r p tl3 o3 h3 tk3 F3 N3 f3 e3 so3 g4 i3 => ?_)
  obtain ⟨pa, pv1, pv2, pv3, n6, rfl, pm, pi1, pi2, pi3⟩ := i3.tup3
  obtain ⟨pt, rfl⟩ := pi2.int'
  obtain ⟨pc, piv, n7, rfl, pm3, pl⟩ := pi3.lst'
  have pint := pl.ints
  walk_at "GO"
  refine Stop.go (lplace_K (by assumption) (by assumption) X T (Room.deep hr (by decide)) (by walk_at "PULL") (by walk_at "OFF") (by assumption) (by decide) (by decide) fun r q tl4 o4 h4 tk4 F4 N4 f4 e4 so4 g5 i4 => ?_)
  obtain ⟨qa, qv1, qv2, qv3, n8, rfl, qm, qi1, qi2, qi3⟩ := i4.tup3
  obtain ⟨qt, rfl⟩ := qi2.int'
  obtain ⟨qc, qiv, n9, rfl, qm3, ql⟩ := qi3.lst'
  have qint := ql.ints
  clear so1 so2 so3
  have b1 := allReads_le xs fun y hy => (g2 y hy).ok
  have b2 : p.idx.length ≤ 3 := Nat.le_trans (List.length_filterMap_le _ _) g4.len
  have b3 : q.idx.length ≤ 3 := Nat.le_trans (List.length_filterMap_le _ _) g5.len
  have b4 := p.set_le (Nat.le_trans g4.len (by decide))
  walk_at "GO"
  rename News _ _ _ _ => NN
  refine Stop.go (lset_K (P := p) (by assumption) NN X T (Room.deep hr (by decide)) (i3.mono fun a o q => (NN (a, o) (by k_mem)).1) (Nat.le_trans g4.len (by decide)) fun a vs n h' tk' F' N' off hi => ?_)
  have hne : @Ne Nat a src := Ne.symm (off (src, _) (by k_mem))
  clear off NN
  walk_at "GO"
  rename Fr _ _ _ _ => FF
  rename News _ _ _ _ => NN
  exact fin _ x xs p q _ _ _ _ _ _ FF NN (by walk_at "PULL") (by walk_at "OFF") so4 g1 g2 g3 g4 g5 (.lst (by k_mem) (.cons (.tup (by k_mem) (.cons (.tup (by k_mem) (.cons (.str _ _) (.cons (.int _ _) .nil))) (.cons (.lst (by k_mem) .nil) (.cons (.lst (by k_mem) .nil) .nil)))) (.cons (.tup (by k_mem) (.cons (.tup (by k_mem) (.cons (.str _ _) (.cons (xi.mono fun a o q => by k_mem) (.cons (.tup (by k_mem) (.cons (.tup (by k_mem) (.cons (.int _ _) (.cons (.int _ _) .nil))) .nil)) (.cons (.int _ _) .nil))))) (.cons (.lst (by k_mem) (xl2.mono fun a o q => by k_mem)) (.cons (.lst (by k_mem) .nil) .nil)))) (.cons (.tup (by k_mem) (.cons (.tup (by k_mem) (.cons (.str _ _) (.cons (xi.mono fun a o q => by k_mem) (.cons (.bool _) (.cons (.str _ _) (.cons (.int _ _) .nil)))))) (.cons (.lst (by k_mem) (xl2.mono fun a o q => by k_mem)) (.cons (.lst (by k_mem) .nil) .nil)))) (.cons (.tup (by k_mem) (.cons (.tup (by k_mem) (.cons (.str _ _) (.cons (.tup (by k_mem) (.cons (.str _ _) (.cons (.str _ _) (.cons (.tup (by k_mem) .nil) .nil)))) (.cons (.tup (by k_mem) (yi2.mono fun a o q => by k_mem)) (.cons (pi1.mono fun a o q => by k_mem) (.cons .none .nil)))))) (.cons (.lst (by k_mem) (IsAll.ofInts (by assumption))) (.cons (.lst (by k_mem) (IsAll.ofInts (by assumption))) .nil)))) (.cons (.tup (by k_mem) (.cons (.tup (by k_mem) (.cons (.str _ _) (.cons (qi1.mono fun a o q => by k_mem) (.cons (.int _ _) .nil)))) (.cons (.lst (by k_mem) (IsAll.ofInts (by assumption))) (.cons (.lst (by k_mem) .nil) .nil)))) (.cons (.tup (by k_mem) (.cons (.tup (by k_mem) (.cons (.str _ _) .nil)) (.cons (.lst (by k_mem) (.cons (.int _ _) .nil)) (.cons (.lst (by k_mem) .nil) .nil)))) (.cons (.tup (by k_mem) (.cons (.tup (by k_mem) (.cons (.str _ _) (.cons (.str _ _) .nil))) (.cons (.lst (by k_mem) .nil) (.cons (.lst (by k_mem) .nil) .nil)))) (.cons (.tup (by k_mem) (.cons (.tup (by k_mem) (.cons (.str _ _) .nil)) (.cons (.lst (by k_mem) .nil) (.cons (.lst (by k_mem) .nil) .nil)))) .nil)))))))))
end

section
local macro_rules | `(tactic| walk_at "subscriptTail") => `(tactic| (k_here; (with_reducible show wpAny _ _ (subscriptTail _ _ (Value.ref _) (Value.int _ _)) _ _ _); k_dflt (refine' led_item ?N ?m ?a ?b ?c ?d ?_; (case N => k_asm); (case m => k_mem); (case a => decide); (case b => decide); (case c => rfl); (case d => rfl); k_whole)))
local macro_rules | `(tactic| walk_at "newTuple") => `(tactic| (k_here; k_dflt (refine' newTuple_P ?F ?N ?so ?P ?_ ?z; (case F => k_asm); (case N => k_asm); (case so => assumption); (case P => walk_at "PULL"); (case z => walk_at "SIZE")); intro D' h' F' N' l1; (try k_sweep)))
local macro_rules | `(tactic| walk_at "newList") => `(tactic| (k_here; k_dflt (refine' newList_P ?F ?N ?so ?P ?_ ?z; (case F => k_asm); (case N => k_asm); (case so => assumption); (case P => walk_at "PULL"); (case z => walk_at "SIZE")); intro D' h' F' N' l1; (try k_sweep)))
local macro_rules | `(tactic| walk_at "INTS") => `(tactic| first | assumption | exact .nil | exact .cons _ _ .nil)
local macro_rules | `(tactic| walk_at "binaryOp Add ref ref") => `(tactic| (k_here; (with_reducible show wpAny _ _ (binaryOp _ (Value.ref _) (Value.ref _)) _ _ _); k_dflt (refine' add_P ?F ?N ?so ?P ?a ?b ?i ?j ?_ ?z; (case F => k_asm); (case N => k_asm); (case so => assumption); (case P => walk_at "PULL"); (case a => k_mem); (case b => k_mem); (case i => walk_at "INTS"); (case j => walk_at "INTS"); (case z => walk_at "SIZE")); intro D' ws' h' F' N' l1 hI'; (try k_sweep)))

theorem lrvalue_K {w : World} {mean : ExcName → Option Value} {mg mb : Str → Option Value} {g : Heap} {dp un : Nat} {fr : Option (List Env)} {gd : Option (List Code)} {s : Shared} {Q E : Value → Shared → Prop} {L src : Addr} {o : Obj} {m : Str → Option Value} {news rest : List (Addr × Obj)}
    (F : Fr g L s.heap m) (N : News g L s.heap news) (X : (Mine.K w.params).In g) (T : Top Mine.view (looseW Mine.view []) mean mg mb g)
    (hr : Room dp un 6) (P : Pull src o news rest) (hoff : Off src rest) (hso : SrcO o)
    (post : ∀ r x tl o' h' tk', Fr g L h' m → News g L h' ((src, o') :: (rest ++ tl)) → Off src tl → Apart tl rest → SrcO o' → Rvalue.good x → Is (In tl) r x.drawn → Q r { s with heap := h', toks := tk' }) :
    wpAny (model PySem.Challenge.rw_xm0583_01.row.prog w) (Around.mk none dp fr gd un) (call (.ref 183) [.ref src]) Q E s := by
  have hs := N _ P.mem
  refine lrvalue_ok X T hr F.keep hs.1 hs.2.2 hso fun r x tl o' h' tk' hx ho ho' hf hg hi => ?_
  obtain ⟨F', N', o1, o2⟩ := srcStep tl F N P hoff hx ho hf
  exact post r x tl o' h' tk' F' N' o1 o2 ho' hg hi

theorem lends_K {w : World} {mean : ExcName → Option Value} {mg mb : Str → Option Value} {g : Heap} {dp un : Nat} {fr : Option (List Env)} {gd : Option (List Code)} {s : Shared} {Q E : Value → Shared → Prop} {L src : Addr} {o : Obj} {m : Str → Option Value} {news rest : List (Addr × Obj)}
    (F : Fr g L s.heap m) (N : News g L s.heap news) (X : (Mine.K w.params).In g) (T : Top Mine.view (looseW Mine.view []) mean mg mb g)
    (hr : Room dp un 6) (P : Pull src o news rest) (hoff : Off src rest) (hso : SrcO o)
    (post : ∀ r x xs p q tl o' h' tk', Fr g L h' m → News g L h' ((src, o') :: (rest ++ tl)) → Off src tl → Apart tl rest → SrcO o' → Operand.good x → (∀ y ∈ xs, Operand.good y) → xs.length ≤ 3 → Place.good p → Place.good q → Is (In tl) r (.lst ((ends x xs p q).map Term.drawn)) → Q r { s with heap := h', toks := tk' }) :
    wpAny (model PySem.Challenge.rw_xm0583_01.row.prog w) (Around.mk none dp fr gd un) (call (.ref 190) [.ref src]) Q E s := by
  have hs := N _ P.mem
  refine lends_ok X T hr F.keep hs.1 hs.2.2 hso fun r x xs p q tl o' h' tk' hx ho ho' hf g1 g2 g3 g4 g5 hi => ?_
  obtain ⟨F', N', o1, o2⟩ := srcStep tl F N P hoff hx ho hf
  exact post r x xs p q tl o' h' tk' F' N' o1 o2 ho' g1 g2 g3 g4 g5 hi

inductive Row where
  | assign (p : Place) (r : Rvalue)
  | print (x : Operand)
  | live
  | dead
  | nop
def Row.d : Row → D
  | .assign p r => .tup [.str (Str.ofString "assign"), p.d, r.d]
  | .print x => .tup [.str (Str.ofString "print"), x.d]
  | .live => .tup [.str (Str.ofString "live"), .int 40]
  | .dead => .tup [.str (Str.ofString "dead"), .int 41]
  | .nop => .tup [.str (Str.ofString "nop")]
def Row.reads : Row → List Int
  | .assign p r => r.reads ++ p.whole
  | .print x => x.reads
  | _ => []
def Row.good : Row → Prop
  | .assign p r => p.good ∧ r.good
  | .print x => x.good
  | _ => True
def Row.drawn (x : Row) : D := .tup [x.d, .lst (x.reads.map D.int)]
theorem Rvalue.good.ok {x : Rvalue} (h : x.good) : x.ok := by
  cases x with
  | ref p => exact Nat.le_trans (Place.good.len h) (by decide)
  | discr p => exact Nat.le_trans (Place.good.len h) (by decide)
  | _ => exact ⟨fun o ho => (h.1 o ho).ok, Nat.le_trans h.2 (by decide)⟩

theorem lstmt_ok {w : World} {mean : ExcName → Option Value} {mg mb : Str → Option Value} {g₀ : Heap} (X : (Mine.K w.params).In g₀) (T : Top Mine.view (looseW Mine.view []) mean mg mb g₀)
    {dp un : Nat} {fr : Option (List Env)} {gd : Option (List Code)} {s : Shared} {Q E : Value → Shared → Prop} {src : Addr} {o : Obj}
    (hr : Room dp un 7) (hk : g₀.StaysIn s.heap) (hs : s.heap.get? src = some o) (hs₀ : g₀.get? src = none) (hso : SrcO o)
    (post : ∀ r x tl o' h' tk', Heap.ExtBut src s.heap h' → h'.get? src = some o' → SrcO o' → Fresh tl s.heap h' → Row.good x → Is (In tl) r x.drawn → Q r { s with heap := h', toks := tk' }) :
    wpAny (model PySem.Challenge.rw_xm0583_01.row.prog w) (Around.mk none dp fr gd un) (call (.ref 197) [.ref src]) Q E s := by
  w_top off
  revert X
  k_fill
  intro X
  k_dflt (refine' enter [(src, o)] X T hk ?ko ?k6 ?k7 ?k8 ?k9 ?kB ?_ ?c2 ?c3 ?c4 ?c5)
  walk_at "ENTER"
  clear X T
  intro g L h tk F N X T hold hL
  k_with_none
  have fin : ∀ r x news rest o' h' tk' m', Fr g L h' m' → News g L h' news → Pull src o' news rest → Off src rest → SrcO o' → Row.good x → Is (In rest) r x.drawn → Q r { s with heap := h', toks := tk' } :=
    fun r x news rest o' h' tk' m' FF NN PP OO so gd hi => post r x rest o' h' tk' (Old.ext hold FF) (NN _ PP.mem).1 so (Old.freshs hold NN PP.sub OO) gd hi
  walk_at "GO"
  · refine Stop.go (lplace_K (by assumption) (by assumption) X T (Room.deep hr (by decide)) (by walk_at "PULL") (by walk_at "OFF") (by assumption) (by decide) (by decide) fun r P tl o' h' tk' F' N' o1 o2 so hg hi => ?_)
    rw [List.nil_append] at N'
    obtain ⟨a, v1, v2, v3, n1, rfl, p1, q1, q2, q3⟩ := hi.tup3
    obtain ⟨t2, rfl⟩ := q2.int'
    obtain ⟨c, iv, n2, rfl, p3, q4⟩ := q3.lst'
    have q5 := q4.ints
    have hlen : P.idx.length ≤ 3 := Nat.le_trans (List.length_filterMap_le _ _) hg.len
    walk_at "GO"
    refine Stop.go (lrvalue_K (by assumption) (by assumption) X T (Room.deep hr (by decide)) (by walk_at "PULL") (by walk_at "OFF") (by assumption) fun r x tl2 o2' h2' tk2' F2' N2' o12 o22 so2 hg2 hi2 => ?_)
    obtain ⟨a2, w1, w2, n12, rfl, p12, q12, q22⟩ := hi2.tup2
    obtain ⟨c2, iv2, n22, rfl, p32, q42⟩ := q22.lst'
    have q52 := q42.ints
    have b2 := x.reads_le hg2.ok
    clear so
    walk_at "GO"
    all_goals trace_state
    rename Fr _ _ _ _ => FF
    rename News _ _ _ _ => NN
    exact fin _ (.assign P x) _ _ _ _ _ _ FF NN (by walk_at "PULL") (by walk_at "OFF") so2 ⟨hg, hg2⟩
      (.tup (by k_mem) (.cons (.tup (by k_mem) (.cons (.str _ _) (.cons (q1.mono fun a o q => by k_mem) (.cons (q12.mono fun a o q => by k_mem) .nil)))) (.cons (.lst (by k_mem) (by rw [show (Row.assign P x).reads = (x.reads ++ [P.loc]) ++ P.idx from by rw [List.append_assoc]; rfl]; exact IsAll.ofInts (by assumption))) .nil)))
  · refine Stop.go (loperand_K (by assumption) (by assumption) X T (Room.deep hr (by decide)) (by walk_at "PULL") (by walk_at "OFF") (by assumption) fun r x tl o' h' tk' F' N' o1 o2 so hg hi => ?_)
    rw [List.nil_append] at N'
    obtain ⟨a, v1, v2, n1, rfl, p1, q1, q2⟩ := hi.tup2
    walk_at "GO"
    rename Fr _ _ _ _ => FF
    rename News _ _ _ _ => NN
    exact fin _ (.print x) _ _ _ _ _ _ FF NN (by walk_at "PULL") (by walk_at "OFF") so hg
      (.tup (by k_mem) (.cons (.tup (by k_mem) (.cons (.str _ _) (.cons (q1.mono fun a o q => by k_mem) .nil))) (.cons (q2.mono fun a o q => by k_mem) .nil)))
  · refine Stop.go (one_K (by assumption) (by assumption) X T (Room.deep hr (by decide)) (by walk_at "PULL") (by walk_at "OFF") (by assumption) (by k_mem) (Nat.le_of_ble_eq_true rfl) (Nat.le_of_ble_eq_true rfl) fun i v o3 h3 tk3 hv F3 N3 so3 => ?_)
    rcases three hv with rfl | rfl | rfl
    all_goals (clear hv; walk_at "GO"; rename Fr _ _ _ _ => FF; rename News _ _ _ _ => NN)
    · exact fin _ .live _ _ _ _ _ _ FF NN (by walk_at "PULL") (by walk_at "OFF") so3 trivial
        (.tup (by k_mem) (.cons (.tup (by k_mem) (.cons (.str _ _) (.cons (.int _ _) .nil))) (.cons (.lst (by k_mem) .nil) .nil)))
    · exact fin _ .dead _ _ _ _ _ _ FF NN (by walk_at "PULL") (by walk_at "OFF") so3 trivial
        (.tup (by k_mem) (.cons (.tup (by k_mem) (.cons (.str _ _) (.cons (.int _ _) .nil))) (.cons (.lst (by k_mem) .nil) .nil)))
    · exact fin _ .nop _ _ _ _ _ _ FF NN (by walk_at "PULL") (by walk_at "OFF") so3 trivial
        (.tup (by k_mem) (.cons (.tup (by k_mem) (.cons (.str _ _) .nil)) (.cons (.lst (by k_mem) .nil) .nil)))

theorem lstmt_K {w : World} {mean : ExcName → Option Value} {mg mb : Str → Option Value} {g : Heap} {dp un : Nat} {fr : Option (List Env)} {gd : Option (List Code)} {s : Shared} {Q E : Value → Shared → Prop} {L src : Addr} {o : Obj} {m : Str → Option Value} {news rest : List (Addr × Obj)}
    (F : Fr g L s.heap m) (N : News g L s.heap news) (X : (Mine.K w.params).In g) (T : Top Mine.view (looseW Mine.view []) mean mg mb g)
    (hr : Room dp un 7) (P : Pull src o news rest) (hoff : Off src rest) (hso : SrcO o)
    (post : ∀ r x tl o' h' tk', Fr g L h' m → News g L h' ((src, o') :: (rest ++ tl)) → Off src tl → Apart tl rest → SrcO o' → Row.good x → Is (In tl) r x.drawn → Q r { s with heap := h', toks := tk' }) :
    wpAny (model PySem.Challenge.rw_xm0583_01.row.prog w) (Around.mk none dp fr gd un) (call (.ref 197) [.ref src]) Q E s := by
  have hs := N _ P.mem
  refine lstmt_ok X T hr F.keep hs.1 hs.2.2 hso fun r x tl o' h' tk' hx ho ho' hf hg hi => ?_
  obtain ⟨F', N', o1, o2⟩ := srcStep tl F N P hoff hx ho hf
  exact post r x tl o' h' tk' F' N' o1 o2 ho' hg hi
end

theorem Told_dummy : True := trivial
section
variable {prog : Program} {w : World} {A : Around} {E : Value → Shared → Prop} {s : Shared} {env : Env} {h₀ : Heap} {m : Str → Option Value} {news : List (Addr × Obj)}

/-- a dict's pairs: the keys are those of ks, each says True -/
structure Told (kvs : List (Int × Value)) (ks : List Int) : Prop where
  keys : ∀ k, k ∈ kvs.map (·.1) ↔ k ∈ ks
  vals : ∀ p ∈ kvs, p.2 = .bool true
  bnd : ∀ k ∈ ks, 0 ≤ k ∧ k < 50
theorem Told.store {kvs : List (Int × Value)} {ks : List Int} (h : Told kvs ks) {k : Int} (hk : 0 ≤ k ∧ k < 50) : Told (stored kvs k (.bool true)) (ks ++ [k]) := by
  refine ⟨fun j => ?_, fun p hp => ?_, fun j hj => ?_⟩
  · unfold stored
    split
    · rename_i e
      have e1 : k ∈ kvs.map (·.1) := by
        obtain ⟨p, hp, e⟩ := List.any_eq_true.mp e
        exact List.mem_map.mpr ⟨p, hp, of_decide_eq_true e⟩
      have e2 : (kvs.map fun kv => if kv.1 = k then (kv.1, Value.bool true) else kv).map (·.1) = kvs.map (·.1) := by
        rw [List.map_map]
        apply List.map_congr_left
        intro p _
        simp only [Function.comp]
        split <;> rfl
      rw [e2, h.keys, List.mem_append, List.mem_singleton]
      constructor
      · exact .inl
      · rintro (hj | rfl)
        · exact hj
        · exact (h.keys _).mp e1
    · rw [List.map_append, List.mem_append, h.keys, List.mem_append]
      simp
  · unfold stored at hp
    split at hp
    · obtain ⟨q, hq, rfl⟩ := List.mem_map.mp hp
      split
      · rfl
      · exact h.vals q hq
    · rcases List.mem_append.mp hp with hp | hp
      · exact h.vals p hp
      · rw [List.mem_singleton.mp hp]
  · rcases List.mem_append.mp hj with hj | hj
    · exact h.bnd j hj
    · rw [List.mem_singleton.mp hj]; exact hk
theorem nodup_le : ∀ (n : Nat) (l : List Int), l.Nodup → (∀ k ∈ l, 0 ≤ k ∧ k < n) → l.length ≤ n
  | 0, l, _, h => by
    cases l with
    | nil => exact Nat.le_refl _
    | cons a r => have := h a (.head _); omega
  | n + 1, l, hn, h => by
    have h1 := nodup_le n (l.filter (· ≠ (n : Int))) (hn.filter _) fun k hk => by
      have h2 := List.mem_filter.mp hk
      have h3 := h k h2.1
      have h4 : k ≠ (n : Int) := of_decide_eq_true h2.2
      omega
    have h2 : l.length ≤ (l.filter (· ≠ (n : Int))).length + 1 := by
      clear h1 h
      induction l with
      | nil => exact Nat.zero_le _
      | cons a r ih =>
        have hn' := List.nodup_cons.mp hn
        by_cases e : a = (n : Int)
        · have : r.filter (· ≠ (n : Int)) = r := List.filter_eq_self.mpr fun b hb => decide_eq_true fun e' => hn'.1 (by rw [e, ← e']; exact hb)
          rw [List.filter_cons_of_neg (by simp [e]), this, List.length_cons]
          omega
        · rw [List.filter_cons_of_pos (by simp [e]), List.length_cons, List.length_cons]
          have := ih hn'.2
          omega
    omega
theorem Told.length {kvs : List (Int × Value)} {ks : List Int} (h : Told kvs ks) (hn : (kvs.map (·.1)).Nodup) : kvs.length ≤ 50 := by
  have := nodup_le 50 (kvs.map (·.1)) hn fun k hk => h.bnd k ((h.keys k).mp hk)
  simpa using this
theorem dict_nodup {o : Obj} {kvs : List (Int × Value)} (h : o.IsDictOf (PySem.intKind prog w) kvs) : (kvs.map (·.1)).Nodup := let ⟨_, _, _, _, _, _, hn⟩ := h; hn
theorem Told.congr {kvs : List (Int × Value)} {ks ls : List Int} (h : Told kvs ks) (e : ∀ k, k ∈ ks ↔ k ∈ ls) : Told kvs ls :=
  ⟨fun k => (h.keys k).trans (e k), h.vals, fun k hk => h.bnd k ((e k).mpr hk)⟩

theorem store_P {A : Around} {E : Value → Shared → Prop} {Q : Unit → Shared → Prop} {s : Shared} {g : Heap} {L d : Addr} {o : Obj} {m : Str → Option Value} {news rest : List (Addr × Obj)} {kvs : List (Int × Value)} {ks : List Int} {k : Int} {t : Tok}
    (F : Fr g L s.heap m) (N : News g L s.heap news) (P : Pull d o news rest) (hoff : Off d rest) (hd : o.IsDictOf (PySem.intKind prog w) kvs) (ht : Told kvs ks) (hk : 0 ≤ k ∧ k < 50)
    (h : ∀ h' o' kvs', Fr g L h' m → News g L h' ((d, o') :: rest) → o'.IsDictOf (PySem.intKind prog w) kvs' → Told kvs' (ks ++ [k]) → Q () { s with heap := h', toks := s.toks + 1 }) :
    wpAny (model prog w) A (setItem (.ref d) (.int k t) (.bool true)) Q E s := by
  have N' : News g L s.heap ((d, o) :: rest) := fun p hp => by
    rcases List.mem_cons.mp hp with rfl | hp
    · exact N _ P.mem
    · exact N _ (P.sub _ hp)
  have hl := ht.length (dict_nodup hd)
  exact kda_set F N' (.head hoff) hd (intKind_is _ _ _ _) (by rw [sizeLine_eq]; omega) fun h' o' F' N' hd' => h h' o' _ F' N' hd' (ht.store hk)

def upTo (n : Nat) : List Int := (List.range n).map Int.ofNat
theorem told_of {vs : List Value} {kvs : List (Int × Value)} (h : StoredAll (fun v (k : Int) => ∃ t, v = Value.int k t) (fun _ y => y = Value.bool true) vs kvs) : ∃ ks, IntsAre vs ks ∧ (∀ k, k ∈ kvs.map (·.1) ↔ k ∈ ks) ∧ ∀ p ∈ kvs, p.2 = .bool true := by
  induction h with
  | nil => exact ⟨[], .nil, fun k => Iff.rfl, fun p hp => nomatch hp⟩
  | @snoc l kvs v k y _ h1 h2 ih =>
    obtain ⟨ks, i1, i2, i3⟩ := ih
    obtain ⟨t, rfl⟩ := h1
    subst h2
    refine ⟨ks ++ [k], i1.append (.cons k t .nil), fun j => ?_, fun p hp => ?_⟩
    · unfold stored
      split
      · rename_i e
        have e1 : k ∈ kvs.map (·.1) := by
          obtain ⟨p, hp, e⟩ := List.any_eq_true.mp e
          exact List.mem_map.mpr ⟨p, hp, of_decide_eq_true e⟩
        have e2 : (kvs.map fun kv => if kv.1 = k then (kv.1, Value.bool true) else kv).map (·.1) = kvs.map (·.1) := by
          rw [List.map_map]
          apply List.map_congr_left
          intro p _
          simp only [Function.comp]
          split <;> rfl
        rw [e2, i2, List.mem_append, List.mem_singleton]
        constructor
        · exact .inl
        · rintro (hj | rfl)
          · exact hj
          · exact (i2 _).mp e1
      · rw [List.map_append, List.mem_append, i2, List.mem_append]
        simp
    · unfold stored at hp
      split at hp
      · obtain ⟨q, hq, rfl⟩ := List.mem_map.mp hp
        split
        · rfl
        · exact i3 q hq
      · rcases List.mem_append.mp hp with hp | hp
        · exact i3 p hp
        · rw [List.mem_singleton.mp hp]
theorem ints_upTo {vs : List Value} {ks : List Int} {n : Nat} (h : IntsAre vs ks) (hl : vs.length = n) (hp : ∀ (j : Nat) (v : Value), vs[j]? = some v → ∃ t, v = Value.int (j : Int) t) : ks = upTo n := by
  have hk := h.length
  apply List.ext_getElem?
  intro i
  unfold upTo
  rw [List.getElem?_map]
  by_cases hi : i < n
  · have hiv : i < vs.length := by omega
    obtain ⟨t, e⟩ := hp i vs[i] (by simp [hiv])
    have : ∀ {vs : List Value} {ks : List Int} (i : Nat) (k : Int) (t : Tok), IntsAre vs ks → vs[i]? = some (.int k t) → ks[i]? = some k := by
      intro vs ks i k t h
      induction h generalizing i with
      | nil => intro e; simp at e
      | cons n u _ ih =>
        intro e
        cases i with
        | zero => simp at e ⊢; exact e.1
        | succ i => simpa using ih i (by simpa using e)
    rw [this i i t h (by simp [hiv, e])]
    simp [hi]
  · rw [List.getElem?_eq_none (by omega), List.getElem?_eq_none (by simp; omega)]
    rfl

theorem block_dict {kx vx iter : Expr} {x : Str} {px : Pos} {ifs : List Expr} {scope : Scope} {cl : List (Str × Addr)} {pos : Pos} {s₂ : Shared} {I : Addr} {n : Nat} {P : Nat → Value → Prop}
    {St : Nat → Heap → Prop} (W : Walks prog w A I [I] [I] n P St) (hsz : n ≤ sizeLine) (FK : Value → Int → Prop) (FV : Value → Value → Prop) {RR : Value → Addr → Result → Shared → Prop}
    (hcell : ∀ y ∈ scope.names, y.2 ≠ .cell) (hkind : scope.kind = .function) (hx : scope.names.lookup x = some .local) (hst : St 0 s₂.heap) (hfp : I < s₂.heap.objs.size)
    (hq : QuietOnCD (PySem.intKind prog w) A env scope cl x ifs kx vx [I] P (fun _ => true) FK FV s₂)
    (hRR : ∀ C h' tk m' kvs (vs : List Value), s₂.heap.get? C = none → s₂.heap.objs.size ≠ C → h'.Ns C m' → h'.DictOf (PySem.intKind prog w) s₂.heap.objs.size kvs → vs.length = n → (∀ j v, vs[j]? = some v → P j v) → StoredAll FK FV vs kvs →
      (∀ b o, b ∉ [I] → s₂.heap.get? b = some o → h'.get? b = some o) → RR (.ref s₂.heap.objs.size) C (.ok .next) { s₂ with heap := h', toks := tk }) :
    wpAny (model prog w) A newDict (fun acc s₃ => wpAny (model prog w) A (newFunctionEnv scope env.globals cl [] env.qual none .none (some env)) (fun cenv s₄ =>
      codeAny (model prog w) A (.compStart (.DictComp kx vx [⟨.Name x px, iter, ifs, 0⟩] scope pos) 0 (.ref I) acc { cenv with scope := relabel scope env }) (RR acc cenv.locals) s₄) E s₃) E s₂ := by
  refine wpAny_newObj_type (wpAny_newFunctionEnv hcell (by intro y hy; simp at hy) (fun h₁ ns sb => ?_) hkind)
  have new : (s₂.heap.push { cls := .type "dict", dict := none, data := .dict #[] }).DictOf (PySem.intKind prog w) s₂.heap.objs.size [] := Heap.DictOf.new s₂.heap
  have hsize : (s₂.heap.push { cls := .type "dict", dict := none, data := .dict #[] }).objs.size = s₂.heap.objs.size + 1 := Heap.size_push _ _
  have first : ∀ b o, s₂.heap.get? b = some o → b < s₂.heap.objs.size := fun b o e => Heap.lt_size e
  have keep₁ : ∀ b o, s₂.heap.get? b = some o → h₁.get? b = some o := fun b o e =>
    sb.extBut b o (by show b ≠ (Heap.push _ _).objs.size; rw [hsize]; exact Nat.ne_of_lt (Nat.lt_succ_of_lt (first b o e))) (Heap.get?_push_of_some _ (Heap.get?_push_of_some _ e))
  have dict₁ : h₁.DictOf (PySem.intKind prog w) s₂.heap.objs.size [] := new.at fun o e => sb.extBut _ _ (by show s₂.heap.objs.size ≠ (Heap.push _ _).objs.size; rw [hsize]; exact Nat.ne_of_lt (Nat.lt_succ_self _)) (Heap.get?_push_of_some _ e)
  have st₁ : St 0 h₁ := W.frame _ _ _ hst fun b _ o e => keep₁ b o e
  have neC : ∀ b o, s₂.heap.get? b = some o → b ≠ (s₂.heap.push { cls := .type "dict", dict := none, data := .dict #[] }).objs.size := fun b o e => by rw [hsize]; exact Nat.ne_of_lt (Nat.lt_succ_of_lt (first b o e))
  have neD : ∀ b o, s₂.heap.get? b = some o → b ≠ s₂.heap.objs.size := fun b o e => Nat.ne_of_lt (first b o e)
  have run : codeAny (model prog w) A (.compLoop (.DictComp kx vx [⟨.Name x px, iter, ifs, 0⟩] scope pos) 0 (.ref I) (.ref s₂.heap.objs.size) (compEnvC scope cl (s₂.heap.push { cls := .type "dict", dict := none, data := .dict #[] }).objs.size env))
      (RR (.ref s₂.heap.objs.size) (s₂.heap.push { cls := .type "dict", dict := none, data := .dict #[] }).objs.size) { s₂ with heap := h₁, toks := s₂.toks + ([] : List (Str × Value)).length } := by
    refine codeAny_compLoop_walkD (hsz := hsz) (knd := PySem.intKind prog w) (cenv := compEnvC scope cl (s₂.heap.push { cls := .type "dict", dict := none, data := .dict #[] }).objs.size env) W (fun _ => true) FK FV (lookup_relabel_local hx) (by simp [compEnvC, relabel, hkind])
      (by show s₂.heap.objs.size ≠ (Heap.push _ _).objs.size; rw [hsize]; exact Nat.ne_of_lt (Nat.lt_succ_self _)) (fun hm => Nat.ne_of_gt hfp (List.mem_singleton.mp hm)) (fun hm => Nat.ne_of_gt (Nat.lt_succ_of_lt hfp) (hsize.symm.trans (List.mem_singleton.mp hm))) st₁ dict₁ ns
      (fun i v s₃ m₃ hv hn hm hk => hq.tests _ i v s₃ m₃ _ hv hn hm fun b o hb e => hk b o (neC b o e) hb (neD b o e) (keep₁ b o e))
      (fun i v s₃ m₃ hv hpv hn hm hk => hq.key _ i v s₃ m₃ _ hv hpv hn hm fun b o hb e => hk b o (neC b o e) hb (neD b o e) (keep₁ b o e))
      (fun i v s₃ m₃ hv hpv hn hm hk => hq.val _ i v s₃ m₃ _ hv hpv hn hm fun b o hb e => hk b o (neC b o e) hb (neD b o e) (keep₁ b o e)) fun h' tk m' kvs vs hn ha hlen hP hF hk => ?_
    rw [List.filter_eq_self.mpr fun _ _ => rfl] at hF
    exact hRR _ h' tk m' kvs vs (Heap.get?_none_of_le (by show s₂.heap.objs.size ≤ (Heap.push _ _).objs.size; rw [hsize]; exact Nat.le_succ _)) (by show s₂.heap.objs.size ≠ (Heap.push _ _).objs.size; rw [hsize]; exact Nat.ne_of_lt (Nat.lt_succ_self _)) hn ha hlen hP hF fun b o hb e => hk b o (neC b o e) hb (neD b o e) (keep₁ b o e)
  exact codeAny_compStart_dict run (W.self 0 _ _ _ st₁ run)

/-- a name is set to {x: True for x in range(..)} -/
theorem told_Assign {iter : Expr} {x y : Str} {p1 p2 px py pos spos : Pos} {scope : Scope} {cl : List (Str × Addr)} {Q : Flow → Shared → Prop} (_F : Fr h₀ env.locals s.heap m) (_N : News h₀ env.locals s.heap news)
    (hsw : swapsWith (.DictComp (.Name x p1) (.Constant (.bool true) 0 p2) [⟨.Name x px, iter, [], 0⟩] scope pos) (some (.Name y py)) spos.line env = pure true)
    (hh : A.handled = none) (hclos : closureFor scope env = pure cl) (hcell : ∀ z ∈ scope.names, z.2 ≠ .cell) (hkind : scope.kind = .function)
    (hnames : ∀ z ∈ scope.names, z.2 = .local → scope.names.lookup z.1 = some .local) (hx : scope.names.lookup x = some .local) (hdb : (x == ("__debug__" : Str)) = false)
    (hck : ∀ C, (compEnvC scope cl C env).scope.kind = .function) (hcx : ∀ C, (compEnvC scope cl C env).kindOf x = some .local)
    (hy : env.kindOf y = some .local) (hp : (env.scope.kind == .class || (env.scope.kind == .module && env.locals != env.globals)) = false) (hbig : h₀.NoLimit)
    (h : wpAny (model prog w) A (eval iter env) (fun xv s₁ => ∃ r b₀ t₀ u₀ v₀, ∃ n : Nat, xv = .ref r ∧ IsRange s₁.heap r 0 b₀ 1 t₀ u₀ v₀ ∧ Builtin.Range.small 0 b₀ 1 = true ∧ Builtin.Range.rangeSize 0 b₀ 1 = (n : Int) ∧ n ≤ 50 ∧ Fr h₀ env.locals s₁.heap m ∧ News h₀ env.locals s₁.heap news ∧
      ∀ D o kvs h' tk, Fr h₀ env.locals h' (fun z => if z = y then some (.ref D) else m z) → News h₀ env.locals h' ((D, o) :: news) → (∀ p ∈ news, p.1 ≠ D) → (D == sysModules) = false → o.IsDictOf (PySem.intKind prog w) kvs → Told kvs (upTo n) → Q .next { s₁ with heap := h', toks := tk }) E s)
    (hs : ∀ x, foldedSetIterable iter env x = pure x) :
    wpAny (model prog w) A (exec (.Assign [.Name y py] (.DictComp (.Name x p1) (.Constant (.bool true) 0 p2) [⟨.Name x px, iter, [], 0⟩] scope pos) spos) env) Q E s := by
  rw [exec_Assign_Name_used _ _ _ _ hsw]
  refine wpAny_bind (wpAny_standAt (wpAny_bind ?_))
  show wpAny _ A (do let _ ← comprehension (.DictComp (.Name x p1) (.Constant (.bool true) 0 p2) [⟨.Name x px, iter, [], 0⟩] scope pos) scope env _ newDict false (eval iter env) (some (assign (.Name y py) env))) _ _ s
  refine wpAny_bind (wpAny_mono (wpAny_comprehension_free (use := some (assign (.Name y py) env)) (Q := fun _ s' => Q .next s') rfl hs hclos hkind hnames
    (wpAny_mono h (fun xv s₁ h₁ => ?_) fun _ _ e => e)) (fun _ s' hq => wpAny_pure (wpAny_pure hq)) fun _ _ e => e)
  obtain ⟨r, b₀, t₀, u₀, v₀, n, rfl, hr, hsmall, hn, hz, F, N, hQ⟩ := h₁
  refine wpAny_pyIter_range hr hsmall ?_
  have W : Walks prog w A s₁.heap.objs.size [s₁.heap.objs.size] [s₁.heap.objs.size] n (fun i v => ∃ t, v = .int (0 + i * 1) t)
      (fun i h => IsRangeIter h s₁.heap.objs.size (0 + (i : Nat) * 1) ((n : Int) - (i : Nat)) 1) := Walks.range hh _ 0 1 n
  have up : ∀ (h' : Heap), (∀ b o, b ∉ [s₁.heap.objs.size] → (s₁.heap.push { cls := .type "range_iterator", data := .fields #[rawInt 0, rawInt (Builtin.Range.rangeSize 0 b₀ 1), rawInt 1] }).get? b = some o → h'.get? b = some o) → ∀ b o, s₁.heap.get? b = some o → h'.get? b = some o :=
    fun h' hk b o e => hk b o (fun hm => by rcases List.mem_cons.mp hm with rfl | hm; exact Nat.lt_irrefl _ (Heap.lt_size e); cases hm) (Heap.get?_push_of_some _ e)
  refine block_dict (RR := fun acc C => compPost (model prog w) A E (some (assign (.Name y py) env)) (fun _ s' => Q .next s') acc C) W (by rw [PySem.sizeLine_eq]; omega)
    (fun v k => ∃ t, v = Value.int k t) (fun _ y => y = Value.bool true) hcell hkind hx ?_ ?_ ⟨?_, ?_, ?_⟩ ?_
  · show IsRangeIter _ _ _ _ _
    rw [hn]; simpa using Heap.get?_push_size _ rfl
  · show s₁.heap.objs.size < (s₁.heap.push _).objs.size
    rw [Heap.size_push]
    exact Nat.lt_succ_self _
  · intro C i v s₃ m₃ E' hP hn hm hk
    exact wpAny_pure ⟨rfl, _, _, rfl, fun b o q => q⟩
  · intro C i v s₃ m₃ E' hP hp' hn hm hk
    obtain ⟨t, rfl⟩ := hP
    exact wpAny_Name (wpAny_loadName_local (hck C) (hcx C) hn hm ⟨⟨_, intKind_is _ _ _ _, t, rfl⟩, _, _, rfl, fun b o q => q⟩) hdb
  · intro C i v s₃ m₃ E' hP hp' hn hm hk
    exact wpAny_Constant_bool ⟨rfl, _, _, rfl, fun b o q => q⟩
  · intro C h' tk m' kvs vs' hC hDC hnC hlD hlen hP hF hk
    obtain ⟨D, eD⟩ : ∃ D, D = (s₁.heap.push { cls := .type "range_iterator", data := .fields #[rawInt 0, rawInt (Builtin.Range.rangeSize 0 b₀ 1), rawInt 1] }).objs.size := ⟨_, rfl⟩
    have hD : (s₁.heap.push { cls := .type "range_iterator", data := .fields #[rawInt 0, rawInt (Builtin.Range.rangeSize 0 b₀ 1), rawInt 1] }).get? D = none := Heap.get?_none_of_le (Nat.le_of_eq eD.symm)
    have eD2 : D = s₁.heap.objs.size + 1 := by rw [eD, Heap.size_push]
    rw [← eD] at hlD hDC ⊢
    have hn : (s₁.heap.push { cls := .type "range_iterator", data := .fields #[rawInt 0, rawInt (Builtin.Range.rangeSize 0 b₀ 1), rawInt 1] }).Ns env.locals m := F.ns.push _
    have hLf : env.locals ∉ [s₁.heap.objs.size] := fun hm => by
      rcases List.mem_cons.mp hm with e | hm
      · exact Nat.lt_irrefl _ (e ▸ F.ns.lt)
      · cases hm
    have hLC : env.locals ≠ C := by rintro rfl; obtain ⟨o, _, _, ho, _⟩ := hn; rw [hC] at ho; cases ho
    have hLD : env.locals ≠ D := by rintro rfl; obtain ⟨o, _, _, ho, _⟩ := hn; rw [hD] at ho; cases ho
    show wpAny _ A (assign (.Name y py) env (.ref D)) _ _ _
    refine wpAny_assign_Name (wpAny_storeName_local hy (hn.at' fun o e => hk _ o hLf e) (fun h₂ hn₂ hs₂ => ?_) hp)
    refine ⟨m', hnC.sameBut hs₂ (Ne.symm hLC), fun h₃ hs₃ => ?_⟩
    have keep : ∀ b o, b ≠ env.locals → s₁.heap.get? b = some o → h₃.get? b = some o := fun b o hb e =>
      hs₃.extBut b o (by rintro rfl; rw [Heap.get?_push_of_some _ e] at hC; cases hC) (hs₂.extBut b o hb (up h' hk b o e))
    have F' : Fr h₀ env.locals h₃ (fun z => if z = y then some (.ref D) else m z) := ⟨hn₂.sameBut hs₃ hLC, fun b o e => keep b o (Nat.ne_of_lt (Nat.lt_of_lt_of_le (Heap.lt_size e) F.above)) (F.keep b o e), F.above⟩
    have hD₃ := (hlD.extBut hs₂.extBut (Ne.symm hLD)).extBut hs₃.extBut hDC
    obtain ⟨o, ho, hdo⟩ := Heap.dictOf_iff.mp hD₃
    have hD₀ : h₀.get? D = none := by
      cases e : h₀.get? D with
      | none => rfl
      | some o' => rw [Heap.get?_push_of_some _ (F.keep _ _ e)] at hD; cases hD
    have hD₁ : s₁.heap.get? D = none := by
      cases e : s₁.heap.get? D with
      | none => rfl
      | some o' => rw [Heap.get?_push_of_some _ e] at hD; cases hD
    refine hQ D o kvs h₃ _ F' (fun p hp => ?_) (fun p hp e => ?_) ?_ hdo ?_
    · rcases List.mem_cons.mp hp with rfl | hp
      · exact ⟨ho, fun e => hLD e.symm, hD₀⟩
      · exact ⟨keep _ _ (N p hp).2.1 (N p hp).1, (N p hp).2⟩
    · have := (N p hp).1
      rw [e, hD₁] at this; cases this
    · refine beq_eq_false_iff_ne.mpr fun e => ?_
      have h1 : D < h₀.objs.size := e ▸ modules_low hbig
      have h2 : D < s₁.heap.objs.size := Nat.lt_of_lt_of_le h1 (Nat.le_trans F.above (Nat.le_of_lt F.ns.lt))
      rw [eD2] at h2
      exact Nat.lt_irrefl _ (Nat.lt_of_succ_lt h2)
    · obtain ⟨ks, i1, i2, i3⟩ := told_of hF
      have e := ints_upTo (n := n) i1 hlen fun j v hv => by
        obtain ⟨t, e⟩ := hP j v hv
        exact ⟨t, by rw [e]; simp⟩
      subst e
      refine ⟨i2, i3, fun k hk => ?_⟩
      obtain ⟨i, hi, rfl⟩ := List.mem_map.mp hk
      have := List.mem_range.mp hi
      show (0 : Int) ≤ (i : Int) ∧ (i : Int) < 50
      omega
end

section
theorem rvalue_K {w : World} {mean : ExcName → Option Value} {mg mb : Str → Option Value} {g : Heap} {dp un : Nat} {fr : Option (List Env)} {gd : Option (List Code)} {s : Shared} {Q E : Value → Shared → Prop} {v : Value} {R : Rvalue} {L : Addr} {m : Str → Option Value} {news : List (Addr × Obj)}
    (F : Fr g L s.heap m) (N : News g L s.heap news) (X : (Mine.K w.params).In g) (T : Top Mine.view (looseW Mine.view []) mean mg mb g)
    (hr : Room dp un 3) (hI : Is (At s.heap) v R.d) (hok : R.ok)
    (post : ∀ a vs n h' tk', Fr g L h' m → News g L h' ((a, lstO vs n) :: news) → (∀ p ∈ news, p.1 ≠ a) → IntsAre vs R.reads → Q (.ref a) { s with heap := h', toks := tk' }) :
    wpAny (model PySem.Challenge.rw_xm0583_01.row.prog w) (Around.mk none dp fr gd un) (call (.ref 117) [v]) Q E s := by
  refine rvalue_ok X T hr F.keep hI hok fun a vs n h' tk' hs hf ha hi => ?_
  obtain ⟨F', N', off⟩ := News.keep1 F N hs hf ha
  exact post a vs n h' tk' F' N' off hi
theorem term_K {w : World} {mean : ExcName → Option Value} {mg mb : Str → Option Value} {g : Heap} {dp un : Nat} {fr : Option (List Env)} {gd : Option (List Code)} {s : Shared} {Q E : Value → Shared → Prop} {v : Value} {R : Term} {L : Addr} {m : Str → Option Value} {news : List (Addr × Obj)}
    (F : Fr g L s.heap m) (N : News g L s.heap news) (X : (Mine.K w.params).In g) (T : Top Mine.view (looseW Mine.view []) mean mg mb g)
    (hr : Room dp un 3) (hI : Is (At s.heap) v R.d) (hok : R.ok)
    (post : ∀ a vs n h' tk', Fr g L h' m → News g L h' ((a, lstO vs n) :: news) → (∀ p ∈ news, p.1 ≠ a) → IntsAre vs R.reads → Q (.ref a) { s with heap := h', toks := tk' }) :
    wpAny (model PySem.Challenge.rw_xm0583_01.row.prog w) (Around.mk none dp fr gd un) (call (.ref 124) [v]) Q E s := by
  refine term_ok X T hr F.keep hI hok fun a vs n h' tk' hs hf ha hi => ?_
  obtain ⟨F', N', off⟩ := News.keep1 F N hs hf ha
  exact post a vs n h' tk' F' N' off hi

structure Blk where
  rows : List Row
  fin : Term
def Blk.d (b : Blk) : D := .lst [.lst (b.rows.map Row.d), b.fin.d]
def rowReads (rs : List Row) : List Int := rs.flatMap Row.reads
def Blk.reads (b : Blk) : List Int := rowReads b.rows ++ (b.fin.reads ++ b.fin.more)
def blkReads (bs : List Blk) : List Int := bs.flatMap Blk.reads
def Row.ok : Row → Prop
  | .assign p r => p.steps.length ≤ 64 ∧ r.ok
  | .print x => x.ok
  | _ => True
structure Blk.ok (b : Blk) : Prop where
  rows : ∀ r ∈ b.rows, r.ok
  len : b.rows.length ≤ 64
  fin : b.fin.ok
  bnd : ∀ k ∈ b.reads, 0 ≤ k ∧ k < 50
theorem rowReads_take (rs : List Row) (i : Nat) (r : Row) (h : rs[i]? = some r) : rowReads (rs.take (i + 1)) = rowReads (rs.take i) ++ r.reads := by
  unfold rowReads
  rw [List.take_add_one, h, List.flatMap_append]
  simp
theorem blkReads_take (rs : List Blk) (i : Nat) (r : Blk) (h : rs[i]? = some r) : blkReads (rs.take (i + 1)) = blkReads (rs.take i) ++ r.reads := by
  unfold blkReads
  rw [List.take_add_one, h, List.flatMap_append]
  simp
theorem own_two {g₀ h : Heap} {a b : Addr} {o p : Obj} (a1 : h.get? a = some o) (a2 : g₀.get? a = none) (b1 : h.get? b = some p) (b2 : g₀.get? b = none) : ∀ q ∈ [(a, o), (b, p)], h.get? q.1 = some q.2 ∧ g₀.get? q.1 = none :=
  fun q hq => by
    rcases List.mem_cons.mp hq with rfl | hq
    · exact ⟨a1, a2⟩
    · rw [List.mem_singleton.mp hq]; exact ⟨b1, b2⟩
theorem Old.stays' {own : List (Addr × Obj)} {s g h' : Heap} {L : Addr} {m' : Str → Option Value} {news : List (Addr × Obj)} (H : Old own s g) (F : Fr g L h' m') (N : News g L h' news) (hs : ∀ q ∈ own, s.get? q.1 = some q.2) (sub : ∀ q ∈ own, q ∈ news) : s.StaysIn h' := by
  intro b o e
  by_cases hb : ∃ q ∈ own, q.1 = b
  · obtain ⟨q, hq, rfl⟩ := hb
    have := hs q hq
    rw [e] at this; cases this
    exact (N q (sub q hq)).1
  · exact F.keep b o (H b o (fun q hq e => hb ⟨q, hq, e⟩) e)
theorem Old.fresh' {own : List (Addr × Obj)} {s g h' : Heap} {L D : Addr} {o : Obj} {news : List (Addr × Obj)} (H : Old own s g) (N : News g L h' news) (hm : (D, o) ∈ news) (ho : ∀ q ∈ own, q.1 ≠ D) : s.get? D = none := by
  cases e : s.get? D with
  | none => rfl
  | some x => have := (N _ hm).2.2; rw [H D x ho e] at this; cases this
mutual
theorem Is.mono2 {φ ψ : Addr → Obj → Prop} (h1 : ∀ a vs n, φ a (tupO vs n) → ψ a (tupO vs n)) (h2 : ∀ a vs n, φ a (lstO vs n) → ψ a (lstO vs n)) : ∀ {v d}, Is φ v d → Is ψ v d
  | _, _, .int n t => .int n t
  | _, _, .str x t => .str x t
  | _, _, .none => .none
  | _, _, .bool b => .bool b
  | _, _, .tup a b => .tup (h1 _ _ _ a) (IsAll.mono2 h1 h2 b)
  | _, _, .lst a b => .lst (h2 _ _ _ a) (IsAll.mono2 h1 h2 b)
theorem IsAll.mono2 {φ ψ : Addr → Obj → Prop} (h1 : ∀ a vs n, φ a (tupO vs n) → ψ a (tupO vs n)) (h2 : ∀ a vs n, φ a (lstO vs n) → ψ a (lstO vs n)) : ∀ {vs ds}, IsAll φ vs ds → IsAll ψ vs ds
  | _, _, .nil => .nil
  | _, _, .cons a b => .cons (Is.mono2 h1 h2 a) (IsAll.mono2 h1 h2 b)
end

section
variable {prog : Program} {w : World} {A : Around} {E : Value → Shared → Prop} {s : Shared} {env : Env} {g : Heap} {x : Str} {body : List Stmt} {Q : Flow → Shared → Prop}
/-- the end of a turn that notes k in D -/
def NoteEnd (prog : Program) (w : World) (g : Heap) (L : Addr) (keep : (Str → Option Value) → Prop) (D : Addr) (tail : List (Addr × Obj)) (ks : List Int) (s₁ : Shared) (f : Flow) (s₂ : Shared) : Prop :=
  f = .next ∧ ∃ o' kvs' h' tk m', s₂ = { s₁ with heap := h', toks := tk } ∧ Fr g L h' m' ∧ keep m' ∧ News g L h' ((D, o') :: tail) ∧ o'.IsDictOf (PySem.intKind prog w) kvs' ∧ Told kvs' ks
theorem NoteEnd.intro {L : Addr} {keep : (Str → Option Value) → Prop} {D : Addr} {tail : List (Addr × Obj)} {ks : List Int} {s₁ : Shared} {o' : Obj} {kvs' : List (Int × Value)} {h' : Heap} {tk : Nat} {m' : Str → Option Value}
    (F : Fr g L h' m') (N : News g L h' ((D, o') :: tail)) (hk : keep m') (hd : o'.IsDictOf (PySem.intKind prog w) kvs') (ht : Told kvs' ks) : NoteEnd prog w g L keep D tail ks s₁ .next { s₁ with heap := h', toks := tk } :=
  ⟨rfl, o', kvs', h', tk, m', rfl, F, hk, N, hd, ht⟩
theorem ints_take {vs : List Value} {ns : List Int} {i : Nat} {v : Value} (h : IntsAre vs ns) (hv : vs[i]? = some v) : ∃ k t, v = .int k t ∧ ns[i]? = some k ∧ ns.take (i + 1) = ns.take i ++ [k] := by
  induction h generalizing i with
  | nil => simp at hv
  | cons n t _ ih =>
    cases i with
    | zero => simp at hv; exact ⟨n, t, hv.symm, rfl, by simp⟩
    | succ i =>
      obtain ⟨k, u, e, e1, e2⟩ := ih (i := i) (by simpa using hv)
      exact ⟨k, u, e, by simpa using e1, by rw [List.take_succ_cons, e2]; rfl⟩
theorem note_loop {l : Addr} {vs : List Value} {n : Nat} {ns ks : List Int} {D : Addr} {o : Obj} {kvs : List (Int × Value)} {m₀ : Str → Option Value} {news : List (Addr × Obj)} (keep : (Str → Option Value) → Prop) (rest : List (Addr × Obj))
    (hh : A.handled = none) (F : Fr g env.locals s.heap m₀) (N : News g env.locals s.heap news) (hl : (l, lstO vs n) ∈ news) (hi : IntsAre vs ns) (hb : ∀ k ∈ ns, 0 ≤ k ∧ k < 50) (hm : (D, o) ∈ news) (hr : ∀ p ∈ rest, p ∈ news)
    (hd : o.IsDictOf (PySem.intKind prog w) kvs) (ht : Told kvs ks) (h0 : keep m₀)
    (turn : ∀ k t o kvs ks' m₁ h tk I oI, 0 ≤ k ∧ k < 50 → keep m₁ → @Ne Nat D I → l ≠ I → (∀ p ∈ rest, p.1 ≠ I) → o.IsDictOf (PySem.intKind prog w) kvs → Told kvs ks' → Fr g env.locals h (fun y => if y = x then some (.int k t) else m₁ y) → News g env.locals h ((I, oI) :: (D, o) :: (l, lstO vs n) :: rest) →
      wpAny (model prog w) A (execs body env) (NoteEnd prog w g env.locals keep D ((I, oI) :: (l, lstO vs n) :: rest) (ks' ++ [k]) { s with heap := h, toks := tk }) E { s with heap := h, toks := tk })
    (done : ∀ o kvs m₁ h tk, keep m₁ → Fr g env.locals h m₁ → News g env.locals h ((D, o) :: rest) → o.IsDictOf (PySem.intKind prog w) kvs → Told kvs (ks ++ ns) → Q .next { s with heap := h, toks := tk }) :
    wpAny (model prog w) A (pyIter (.ref l)) (fun it s₂ => LoopAtV prog w A g env x body Q E it s₂) E s := by
  refine led_loop (fun i m nx => ∃ o kvs, keep m ∧ nx = (D, o) :: (l, lstO vs n) :: rest ∧ o.IsDictOf (PySem.intKind prog w) kvs ∧ Told kvs (ks ++ ns.take i)) hh F (News.pick N hm (News.pick N hl (Mine.News.sub N hr))) (.tail _ (.head _))
    (fun i m nx ⟨o, kvs, _, e, _⟩ => by rw [e]; exact .tail _ (.head _)) ⟨o, kvs, h0, rfl, hd, by simpa using ht⟩ ?_ ?_
  · rintro i v m₁ nx h tk I oI hv ⟨o1, kvs1, k1, rfl, hd1, ht1⟩ off F N
    obtain ⟨k, t, rfl, e1, e2⟩ := ints_take hi hv
    refine wpAny_mono (turn k t o1 kvs1 _ m₁ h tk I oI (hb k (List.mem_of_getElem? e1)) k1 (off _ (.head _)) (off _ (.tail _ (.head _))) (fun p hp => off p (.tail _ (.tail _ hp))) hd1 ht1 F N) (fun f s₂ h₂ => ?_) fun _ _ e => e
    obtain ⟨rfl, o', kvs', h', tk', m', rfl, F', k', N', hd', ht'⟩ := h₂
    refine TurnEnd.intro ((D, o') :: (l, lstO vs n) :: rest) F' (fun p hp => N' p ?_) (fun p hp => ?_) ⟨o', kvs', k', rfl, hd', by rw [e2, ← List.append_assoc]; exact ht'⟩
    · rcases List.mem_cons.mp hp with rfl | hp
      · exact .tail _ (.head _)
      · rcases List.mem_cons.mp hp with rfl | hp
        · exact .head _
        · exact .tail _ (.tail _ hp)
    · rcases List.mem_cons.mp hp with rfl | hp
      · exact (off (D, o1) (.head _) : D ≠ I)
      · exact off p (.tail _ hp)
  · rintro m₁ nx h tk ⟨o1, kvs1, k1, rfl, hd1, ht1⟩ F N
    rw [hi.length, List.take_length] at ht1
    exact done o1 kvs1 m₁ h tk k1 F (fun p hp => N p (by
      rcases List.mem_cons.mp hp with rfl | hp
      · exact .head _
      · exact .tail _ (.tail _ hp))) hd1 ht1

/-- the loop that notes every item of a list of ints in D -/
theorem note_turns {p1 p2 p3 p4 p5 : Pos} {y : Str} {l : Addr} {vs : List Value} {n : Nat} {ns ks : List Int} {D : Addr} {o : Obj} {kvs : List (Int × Value)} {m₀ : Str → Option Value} {news : List (Addr × Obj)} (keep : (Str → Option Value) → Prop) (rest : List (Addr × Obj))
    (hh : A.handled = none) (F : Fr g env.locals s.heap m₀) (N : News g env.locals s.heap news) (hl : (l, lstO vs n) ∈ news) (hi : IntsAre vs ns) (hb : ∀ k ∈ ns, 0 ≤ k ∧ k < 50) (hm : (D, o) ∈ news) (hr : ∀ p ∈ rest, p ∈ news)
    (hlD : @Ne Nat l D) (hoff : Off D rest) (hd : o.IsDictOf (PySem.intKind prog w) kvs) (ht : Told kvs ks) (h0 : keep m₀) (hkD : ∀ m, keep m → m y = some (.ref D)) (hkx : ∀ m v, keep m → keep (fun z => if z = x then some v else m z))
    (hke : env.scope.kind = .function) (hky : env.kindOf y = some .local) (hkl : env.kindOf x = some .local) (hdy : (y == ("__debug__" : Str)) = false) (hdx : (x == ("__debug__" : Str)) = false)
    (hs : swapsWith (.Constant (.bool true) 0 p4) (some (.Subscript (.Name y p1) (.Name x p2) p3)) p5.line env = pure false)
    (done : ∀ o kvs m₁ h tk, keep m₁ → Fr g env.locals h m₁ → News g env.locals h ((D, o) :: rest) → o.IsDictOf (PySem.intKind prog w) kvs → Told kvs (ks ++ ns) → Q .next { s with heap := h, toks := tk }) :
    wpAny (model prog w) A (pyIter (.ref l)) (fun it s₂ => LoopAtV prog w A g env x [.Assign [.Subscript (.Name y p1) (.Name x p2) p3] (.Constant (.bool true) 0 p4) p5] Q E it s₂) E s := by
  refine note_loop keep rest hh F N hl hi hb hm hr hd ht h0 (fun k t o kvs ks' m₁ h tk I oI hk k1 d1 d2 d3 hd' ht' F' N' => ?_) done
  have kx := hkx m₁ (.int k t) k1
  refine wpAny_execs_cons (wpAny_Assign_Subscript (wpAny_Constant_bool (wpAny_Name (wpAny_loadName_local hke hky F'.ns (hkD _ kx) (wpAny_Name (wpAny_loadName_local hke hkl F'.ns (if_pos rfl) ?_) hdx)) hdy)) hs)
  refine store_P F' N' (.tail .head) (Off.cons (Ne.symm d1) (Off.cons hlD hoff)) hd' ht' hk fun h' o' kvs' F2 N2 hd2 ht2 => ?_
  refine wpAny_execs_nil (NoteEnd.intro F2 N2 kx hd2 ht2)
end
theorem Blk.ok.row {b : Blk} (h : b.ok) {r : Row} (hr : r ∈ b.rows) : ∀ k ∈ r.reads, 0 ≤ k ∧ k < 50 := fun k hk => h.bnd k (List.mem_append_left _ (List.mem_flatMap.mpr ⟨r, hr, hk⟩))
theorem sub_nil {l : List (Addr × Obj)} : ∀ p ∈ ([] : List (Addr × Obj)), p ∈ l := fun _ h => nomatch h
theorem sub_cons {a : Addr × Obj} {r l : List (Addr × Obj)} (h : a ∈ l) (t : ∀ p ∈ r, p ∈ l) : ∀ p ∈ a :: r, p ∈ l := fun p hp => by
  rcases List.mem_cons.mp hp with rfl | hp
  · exact h
  · exact t p hp
local macro_rules | `(tactic| walk_at "SUB") => `(tactic| first | exact sub_nil | exact sub_cons (by k_mem) (by walk_at "SUB"))
theorem IsAll.pair {φ : Addr → Obj → Prop} {vs : List Value} {d1 d2 : D} (h : IsAll φ vs [d1, d2]) : ∃ v1 v2, vs = [v1, v2] ∧ Is φ v1 d1 ∧ Is φ v2 d2 := by
  cases h with | cons a b => cases b with | cons b c => cases c; exact ⟨_, _, rfl, a, b⟩

local macro_rules | `(tactic| walk_at "ENTER") => `(tactic| ((case ko => exact own_two (by assumption) (by assumption) (by assumption) (by assumption)); (case k6 => k_is); (case k7 => k_is); (case k8 => exact Room.depth (by assumption)); (case k9 => exact BindsTo.of_eq rfl); (case c5 => decide); (case kB => exact locs rfl); (case c2 => exact rfl); (case c3 => exact rfl); (case c4 => exact rfl); k_whole))
local macro_rules | `(tactic| walk_at "getAttr ref") => `(tactic| (k_here; k_dflt (refine' get_own ?k1 ?k2 ?k3 ?k4 ?k5 ?k6 ?k7 ?k8 ?k9 ?_; (case k1 => k_asm); (case k2 => k_asm); (case k3 => k_inst); (case k4 => k_is); (case k5 => k_is); (case k6 => k_is); (case k7 => k_is); (case k8 => assumption); (case k9 => k_handed); k_whole)))
local macro_rules | `(tactic| walk_at "exec Assign cons DictComp") => `(tactic| (k_here; refine Stop.of ?_))
local macro_rules | `(tactic| walk_at "call ref") => `(tactic| (k_here; (with_reducible show wpAny _ _ (call (Value.ref 103) [_]) _ _ _); k_dflt (refine' whole_K ?F ?N ?X ?T ?r ?I ?z ?_; (case F => k_asm); (case N => k_asm); (case X => assumption); (case T => assumption); (case r => exact Room.deep (by assumption) (by decide)); (case I => exact Is.base (by assumption) (by assumption)); (case z => assumption)); intro l' ys' k' h' tk' F' N' l1 i1))
local macro_rules | `(tactic| walk_at "setItem ref int") => `(tactic| (k_here; refine Stop.of ?_))

theorem base_list {g h : Heap} {L l : Addr} {m : Str → Option Value} {vs : List Value} {n : Nat} (F : Fr g L h m) (hl : g.get? l = some (lstO vs n)) : h.IsList l vs.toArray := ⟨_, F.keep _ _ hl, rfl, n, rfl⟩
local macro_rules | `(tactic| walk_at "assign Tuple") => `(tactic| (k_here; (with_reducible show wpAny _ _ (assign (Expr.Tuple _ _ _) _ (Value.ref _)) _ _ _); k_dflt (refine' kun_list ?k1 ?k2 ?k3 ?k4 ?k5 ?k6 ?_; (case k1 => k_asm); (case k2 => k_asm); (case k3 => exact base_list (by assumption) (by assumption)); (case k4 => exact rfl); (case k5 => exact rfl); (case k6 => exact rfl); k_whole); intro h' F' N'; (try k_sweep)))
local macro_rules | `(tactic| walk_at "Exists") => `(tactic| (k_here; refine Stop.of ?_))
theorem named_ok {w : World} {mean : ExcName → Option Value} {mg mb : Str → Option Value} {g₀ : Heap} (X : (Mine.K w.params).In g₀) (T : Top Mine.view (looseW Mine.view []) mean mg mb g₀)
    {dp un : Nat} {fr : Option (List Env)} {gd : Option (List Code)} {s : Shared} {Q E : Value → Shared → Prop} {b dd bl : Addr} {es : List DictEntry} {k : Nat} {bvs : List Value} {nb : Nat} {n : Nat} {tn : Tok} {bs : List Blk}
    (hr : Room dp un 5) (hk : g₀.StaysIn s.heap) (hb : s.heap.get? b = some (instObj 82 dd)) (hb₀ : g₀.get? b = none) (hd : s.heap.get? dd = some (dictOf es k)) (hd₀ : g₀.get? dd = none)
    (hg1 : getL (Str.ofString "arg_count") es = some (some (.int (n : Int) tn))) (hg2 : getL (Str.ofString "blocks") es = some (some (.ref bl))) (hn : n ≤ 40)
    (hl : s.heap.get? bl = some (lstO bvs nb)) (hI : IsAll (At s.heap) bvs (bs.map Blk.d)) (hok : ∀ x ∈ bs, x.ok) (hz : bs.length ≤ 64)
    (post : ∀ D o kvs h' tk', s.heap.StaysIn h' → s.heap.get? D = none → h'.get? D = some o → (D == sysModules) = false → o.IsDictOf (PySem.intKind PySem.Challenge.rw_xm0583_01.row.prog w) kvs → Told kvs (upTo (n + 1) ++ blkReads bs) → Q (.ref D) { s with heap := h', toks := tk' }) :
    wpAny (model PySem.Challenge.rw_xm0583_01.row.prog w) (Around.mk none dp fr gd un) (call (.ref 129) [.ref b]) Q E s := by
  w_top off
  revert X
  k_fill
  intro X
  k_dflt (refine' enter [(b, instObj 82 dd), (dd, dictOf es k)] X T hk ?ko ?k6 ?k7 ?k8 ?k9 ?kB ?_ ?c2 ?c3 ?c4 ?c5)
  walk_at "ENTER"
  clear X T
  intro g L h tk F N X T hold hL
  have bigT := T.nolimit
  have hne : ∀ {l vs n}, s.heap.get? l = some (lstO vs n) → g.get? l = some (lstO vs n) := fun {l vs n} e => hold _ _ (fun q hq e' => by
    rcases List.mem_cons.mp hq with rfl | hq
    · rw [← e', hb] at e; injection e with e; have e := congrArg Obj.data e; cases e
    · rw [List.mem_singleton.mp hq] at e'; dsimp only at e'; rw [← e', hd] at e; injection e with e; have e := congrArg Obj.data e; cases e) e
  have hnt : ∀ {l vs n}, s.heap.get? l = some (tupO vs n) → g.get? l = some (tupO vs n) := fun {l vs n} e => hold _ _ (fun q hq e' => by
    rcases List.mem_cons.mp hq with rfl | hq
    · rw [← e', hb] at e; injection e with e; have e := congrArg Obj.data e; cases e
    · rw [List.mem_singleton.mp hq] at e'; dsimp only at e'; rw [← e', hd] at e; injection e with e; have e := congrArg Obj.data e; cases e) e
  have hl' := hne hl
  have hI' : IsAll (At g) bvs (bs.map Blk.d) := hI.mono2 (fun a vs n => hnt) (fun a vs n => hne)
  have hown : ∀ q ∈ [(b, instObj 82 dd), (dd, dictOf es k)], s.heap.get? q.1 = some q.2 := fun q hq => by
    rcases List.mem_cons.mp hq with rfl | hq
    · exact hb
    · rw [List.mem_singleton.mp hq]; exact hd
  k_with_none
  walk_at "GO"
  refine Stop.go (told_Assign (by assumption) (by assumption) (by with_unfolding_all rfl) rfl (by with_unfolding_all rfl) (by decide) (by rfl) (by decide) (by rfl) (by decide) (fun C => by rfl) (fun C => by rfl) (by rfl) (by rfl) bigT ?_ (by intro _; with_unfolding_all rfl))
  walk_at "GO"
  rename IsRange _ _ _ _ _ _ _ _ => hR
  rename Fr _ _ _ _ => FF
  rename News _ _ _ _ => NN
  refine Stop.go ⟨_, _, _, _, _, n + 1, rfl, hR, small_one (by decide) (by decide) (by omega) (by omega), (rangeSize_nat 0 (n + 1)).trans (by simp), by omega, FF, NN, fun D o kvs h' tk' F N off lo hdo ht => ?_⟩
  have d1 : @Ne Nat D b := Ne.symm (off (b, _) (by k_mem))
  have d2 : @Ne Nat D dd := Ne.symm (off (dd, _) (by k_mem))
  clear FF NN hR off
  walk_at "GO"
  refine Stop.go (For_invTF (by assumption) ?_ (by intro _; rfl))
  walk_at "GO"
  rename Fr _ _ _ _ => FF
  rename News _ _ _ _ => NN
  refine Stop.go (lst_loopT (fun i m nx => ∃ o kvs, m (Str.ofString "found") = some (.ref D) ∧ nx = [(D, o), (b, instObj 82 dd), (dd, dictOf es k)] ∧ o.IsDictOf (PySem.intKind PySem.Challenge.rw_xm0583_01.row.prog w) kvs ∧ Told kvs (upTo (n + 1) ++ blkReads (bs.take i)))
    rfl hl' FF NN ⟨o, kvs, rfl, rfl, hdo, by simpa [blkReads] using ht⟩ ?_ ?_)
  · rintro i v m₁ nx ⟨hp, gs, dr, tk, os⟩ I oI hv ⟨o1, kvs1, e1, rfl, hd1, ht1⟩ off (F : Fr g L hp _) (N : News g L hp _)
    have f1 : @Ne Nat D I := off (D, _) (.head _)
    have f2 : @Ne Nat b I := off (b, _) (.tail _ (.head _))
    have f3 : @Ne Nat dd I := off (dd, _) (.tail _ (.tail _ (.head _)))
    obtain ⟨de, hde, hv'⟩ := hI'.get i v hv
    obtain ⟨x, hx, rfl⟩ : ∃ x, bs[i]? = some x ∧ x.d = de := by simpa using hde
    obtain ⟨c, cvs, n2, rfl, p1, q0⟩ := hv'.lst'
    obtain ⟨v1, v2, rfl, q1, q2⟩ := q0.pair
    obtain ⟨sl, svs, n3, rfl, p2, q3⟩ := q1.lst'
    have hxo := hok x (List.mem_of_getElem? hx)
    rw [blkReads_take bs i x hx]
    clear FF NN off
    walk_at "GO"
    refine Stop.go (For_invVF (h₀ := g) (by assumption) (by rfl) (by rfl) ?_)
    k_dflt (refine' ld ?k1 ?k2 ?_; (case k1 => k_asm); (case k2 => exact rfl))
    rename Fr _ _ _ _ => FF
    rename News _ _ _ _ => NN
    refine lst_loop (fun j m nx => ∃ o kvs, (m (Str.ofString "found") = some (.ref D) ∧ m (Str.ofString "terminator") = some v2) ∧ nx = [(D, o), (I, oI), (b, instObj 82 dd), (dd, dictOf es k)] ∧ o.IsDictOf (PySem.intKind PySem.Challenge.rw_xm0583_01.row.prog w) kvs ∧ Told kvs ((upTo (n + 1) ++ blkReads (bs.take i)) ++ rowReads (x.rows.take j)))
      rfl p2 FF (News.pick NN (by k_mem) (News.pick NN (by k_mem) (News.pick NN (by k_mem) (News.pick NN (by k_mem) News.nil)))) ⟨o1, kvs1, ⟨e1, rfl⟩, rfl, hd1, by simpa [rowReads] using ht1⟩ ?_ ?_
    · rintro j v m₂ nx h tk I2 oI2 hvj ⟨o2, kvs2, ⟨e2, e3⟩, rfl, hd2, ht2⟩ off (F : Fr g L h _) (N : News g L h _)
      have f4 : @Ne Nat D I2 := off (D, _) (.head _)
      have f5 : @Ne Nat I I2 := off (I, _) (.tail _ (.head _))
      have f6 : @Ne Nat b I2 := off (b, _) (.tail _ (.tail _ (.head _)))
      have f7 : @Ne Nat dd I2 := off (dd, _) (.tail _ (.tail _ (.tail _ (.head _))))
      obtain ⟨de, hde, hvr⟩ := q3.get j v hvj
      obtain ⟨r, hr', rfl⟩ : ∃ r, x.rows[j]? = some r ∧ r.d = de := by simpa using hde
      have hro := hxo.rows r (List.mem_of_getElem? hr')
      rw [rowReads_take x.rows j r hr']
      clear FF NN off
      cases r with
      | assign p rv =>
        obtain ⟨a, w0, w1, w2, n4, rfl, s0, s1, s2, s3⟩ := hvr.tup3
        obtain ⟨t, rfl⟩ := s1.str'
        have hz1 : p.steps.length ≤ 64 := hro.1
        have z1 := p.whole_le hz1
        have z2 := rv.reads_le hro.2
        walk_at "GO"
        refine Stop.go (For_invVF (h₀ := g) (by assumption) (by rfl) (by rfl) ?_)
        walk_at "GO"
        refine Stop.go (rvalue_K (by assumption) (by assumption) X T (Room.deep hr (by decide)) (Is.base (by assumption) s3) hro.2 fun a vs n9 h' tk' F' N' off hi => ?_)
        walk_at "GO"
        rename Fr _ _ _ _ => FF
        rename News _ _ _ _ => NN
        rename IntsAre _ _ => HI
        refine Stop.go (note_turns (ks := (upTo (n + 1) ++ blkReads (bs.take i)) ++ rowReads (x.rows.take j)) (fun m => m (Str.ofString "found") = some (.ref D) ∧ m (Str.ofString "terminator") = some v2) [(I2, oI2), (I, oI), (b, instObj 82 dd), (dd, dictOf es k)] rfl FF NN (by k_mem) HI (hxo.row (List.mem_of_getElem? hr')) (by k_mem) (by walk_at "SUB") (by first | assumption | k_ne) (by walk_at "OFF") hd2 ht2 ⟨by exact e2, by exact e3⟩ (fun _ h => h.1) (by intro _ _ h; exact ⟨by exact h.1, by exact h.2⟩) rfl rfl rfl rfl rfl (by with_unfolding_all rfl) fun o3 kvs3 m₃ h tk kk F N hd3 ht3 => ?_)
        obtain ⟨e4, e5⟩ := kk
        clear FF NN
        walk_at "GO"
        rename Fr _ _ _ _ => FF
        rename News _ _ _ _ => NN
        exact TurnEnd.intro [(D, o3), (I, oI), (b, instObj 82 dd), (dd, dictOf es k)] FF (News.pick NN (by k_mem) (News.pick NN (by k_mem) (News.pick NN (by k_mem) (News.pick NN (by k_mem) (News.pick NN (by k_mem) News.nil))))) (show Off I2 _ by walk_at "OFF") ⟨o3, kvs3, ⟨by exact e4, by exact e5⟩, rfl, hd3, (by rw [← List.append_assoc]; exact ht3)⟩
      | print y =>
        obtain ⟨a, w0, w1, n4, rfl, s0, s1, s2⟩ := hvr.tup2
        obtain ⟨t, rfl⟩ := s1.str'
        walk_at "GO"
        refine Stop.go (For_invVF (h₀ := g) (by assumption) (by rfl) (by rfl) ?_)
        walk_at "GO"
        refine Stop.go (operand_K [y] (by assumption) (by assumption) X T (Room.deep hr (by decide)) (.inr (News.get (by assumption) (by k_mem))) (.cons (Is.base (by assumption) s2) .nil) (fun o ho => by rw [List.mem_singleton.mp ho]; exact hro) (by decide : (1 : Nat) ≤ 64) fun a vs n9 h' tk' F' N' off hi => ?_)
        rw [one_reads] at hi
        have ny : @Ne Nat a D := Ne.symm (off (D, _) (by k_mem))
        walk_at "GO"
        rename Fr _ _ _ _ => FF
        rename News _ _ _ _ => NN
        rename IntsAre _ _ => HI
        refine Stop.go (note_turns (ks := (upTo (n + 1) ++ blkReads (bs.take i)) ++ rowReads (x.rows.take j)) (fun m => m (Str.ofString "found") = some (.ref D) ∧ m (Str.ofString "terminator") = some v2) [(I2, oI2), (I, oI), (b, instObj 82 dd), (dd, dictOf es k)] rfl FF NN (by k_mem) HI (hxo.row (List.mem_of_getElem? hr')) (by k_mem) (by walk_at "SUB") (by first | assumption | k_ne) (by walk_at "OFF") hd2 ht2 ⟨by exact e2, by exact e3⟩ (fun _ h => h.1) (by intro _ _ h; exact ⟨by exact h.1, by exact h.2⟩) rfl rfl rfl rfl rfl (by with_unfolding_all rfl) fun o3 kvs3 m₃ h tk kk F N hd3 ht3 => ?_)
        obtain ⟨e4, e5⟩ := kk
        clear FF NN
        walk_at "GO"
        rename Fr _ _ _ _ => FF
        rename News _ _ _ _ => NN
        exact TurnEnd.intro [(D, o3), (I, oI), (b, instObj 82 dd), (dd, dictOf es k)] FF (News.pick NN (by k_mem) (News.pick NN (by k_mem) (News.pick NN (by k_mem) (News.pick NN (by k_mem) (News.pick NN (by k_mem) News.nil))))) (show Off I2 _ by walk_at "OFF") ⟨o3, kvs3, ⟨by exact e4, by exact e5⟩, rfl, hd3, (by rw [← List.append_assoc]; exact ht3)⟩
      | live =>
        obtain ⟨a, w0, w1, n4, rfl, s0, s1, s2⟩ := hvr.tup2
        obtain ⟨t, rfl⟩ := s1.str'
        walk_at "GO"
        rename Fr _ _ _ _ => FF
        rename News _ _ _ _ => NN
        exact TurnEnd.intro [(D, o2), (I, oI), (b, instObj 82 dd), (dd, dictOf es k)] FF (News.pick NN (by k_mem) (News.pick NN (by k_mem) (News.pick NN (by k_mem) (News.pick NN (by k_mem) (News.pick NN (by k_mem) News.nil))))) (show Off I2 _ by walk_at "OFF") ⟨o2, kvs2, ⟨by exact e2, by exact e3⟩, rfl, hd2, (by rw [show Row.reads .live = [] from rfl, List.append_nil]; exact ht2)⟩
      | dead =>
        obtain ⟨a, w0, w1, n4, rfl, s0, s1, s2⟩ := hvr.tup2
        obtain ⟨t, rfl⟩ := s1.str'
        walk_at "GO"
        rename Fr _ _ _ _ => FF
        rename News _ _ _ _ => NN
        exact TurnEnd.intro [(D, o2), (I, oI), (b, instObj 82 dd), (dd, dictOf es k)] FF (News.pick NN (by k_mem) (News.pick NN (by k_mem) (News.pick NN (by k_mem) (News.pick NN (by k_mem) (News.pick NN (by k_mem) News.nil))))) (show Off I2 _ by walk_at "OFF") ⟨o2, kvs2, ⟨by exact e2, by exact e3⟩, rfl, hd2, (by rw [show Row.reads .dead = [] from rfl, List.append_nil]; exact ht2)⟩
      | nop =>
        obtain ⟨a, w0, n4, rfl, s0, s1⟩ := hvr.tup1
        obtain ⟨t, rfl⟩ := s1.str'
        walk_at "GO"
        rename Fr _ _ _ _ => FF
        rename News _ _ _ _ => NN
        exact TurnEnd.intro [(D, o2), (I, oI), (b, instObj 82 dd), (dd, dictOf es k)] FF (News.pick NN (by k_mem) (News.pick NN (by k_mem) (News.pick NN (by k_mem) (News.pick NN (by k_mem) (News.pick NN (by k_mem) News.nil))))) (show Off I2 _ by walk_at "OFF") ⟨o2, kvs2, ⟨by exact e2, by exact e3⟩, rfl, hd2, (by rw [show Row.reads .nop = [] from rfl, List.append_nil]; exact ht2)⟩
    · rintro m₂ nx h tk ⟨o2, kvs2, ⟨e2, e3⟩, rfl, hd2, ht2⟩ (F : Fr g L h _) (N : News g L h _)
      clear FF NN
      rw [show svs.length = x.rows.length by simpa using q3.length, List.take_length] at ht2
      have hf := hxo.fin
      have hbb : ∀ k ∈ x.fin.reads ++ x.fin.more, 0 ≤ k ∧ k < 50 := fun k hk => hxo.bnd k (List.mem_append_right _ hk)
      have z1 := x.fin.reads_le hf
      have z2 := x.fin.more_le hf
      rw [show x.reads = rowReads x.rows ++ (x.fin.reads ++ x.fin.more) from rfl]
      generalize x.fin = fin at q2 hf hbb z1 z2 ⊢
      cases fin with
      | goto =>
        obtain ⟨a, w0, w1, n4, rfl, s0, s1, s2⟩ := q2.tup2
        obtain ⟨t, rfl⟩ := s1.str'
        walk_at "GO"
        refine Stop.go (term_K (R := .goto) (by assumption) (by assumption) X T (Room.deep hr (by decide)) (Is.base (by assumption) q2) hf fun a vs n9 h' tk' F' N' off hi => ?_)
        walk_at "GO"
        refine Stop.go (For_invVF (h₀ := g) (by assumption) (by rfl) (by rfl) ?_)
        k_dflt (refine' ld ?k1 ?k2 ?_; (case k1 => k_asm); (case k2 => exact rfl))
        rename Fr _ _ _ _ => FF
        rename News _ _ _ _ => NN
        rename IntsAre _ _ => HI
        refine (note_turns (ks := upTo (n + 1) ++ blkReads (bs.take i) ++ rowReads x.rows) (fun m => m (Str.ofString "found") = some (.ref D)) [(I, oI), (b, instObj 82 dd), (dd, dictOf es k)] rfl FF NN (by k_mem) HI hbb (by k_mem) (by walk_at "SUB") (by first | assumption | k_ne) (by walk_at "OFF") hd2 ht2 (by exact e2) (fun _ h => h) (by intro _ _ h; exact h) rfl rfl rfl rfl rfl (by with_unfolding_all rfl) fun o3 kvs3 m₃ h tk kk F N hd3 ht3 => ?_)
        have e4 := kk
        clear FF NN
        walk_at "GO"
        rename Fr _ _ _ _ => FF
        rename News _ _ _ _ => NN
        exact TurnT.intro [(D, o3), (b, instObj 82 dd), (dd, dictOf es k)] FF (News.pick NN (by k_mem) (News.pick NN (by k_mem) (News.pick NN (by k_mem) (News.pick NN (by k_mem) News.nil)))) (show Off I _ by walk_at "OFF") ⟨o3, kvs3, by exact e4, rfl, hd3, by rw [← List.append_assoc, ← List.append_assoc]; exact ht3⟩
      | switch y =>
        obtain ⟨a, w0, w1, w2, w3, n4, rfl, s0, s1, s2, s3, s4⟩ := q2.tup4
        obtain ⟨t, rfl⟩ := s1.str'
        walk_at "GO"
        refine Stop.go (term_K (R := .switch y) (by assumption) (by assumption) X T (Room.deep hr (by decide)) (Is.base (by assumption) q2) hf fun a vs n9 h' tk' F' N' off hi => ?_)
        walk_at "GO"
        refine Stop.go (For_invVF (h₀ := g) (by assumption) (by rfl) (by rfl) ?_)
        k_dflt (refine' ld ?k1 ?k2 ?_; (case k1 => k_asm); (case k2 => exact rfl))
        rename Fr _ _ _ _ => FF
        rename News _ _ _ _ => NN
        rename IntsAre _ _ => HI
        refine (note_turns (ks := upTo (n + 1) ++ blkReads (bs.take i) ++ rowReads x.rows) (fun m => m (Str.ofString "found") = some (.ref D)) [(I, oI), (b, instObj 82 dd), (dd, dictOf es k)] rfl FF NN (by k_mem) HI hbb (by k_mem) (by walk_at "SUB") (by first | assumption | k_ne) (by walk_at "OFF") hd2 ht2 (by exact e2) (fun _ h => h) (by intro _ _ h; exact h) rfl rfl rfl rfl rfl (by with_unfolding_all rfl) fun o3 kvs3 m₃ h tk kk F N hd3 ht3 => ?_)
        have e4 := kk
        clear FF NN
        walk_at "GO"
        rename Fr _ _ _ _ => FF
        rename News _ _ _ _ => NN
        exact TurnT.intro [(D, o3), (b, instObj 82 dd), (dd, dictOf es k)] FF (News.pick NN (by k_mem) (News.pick NN (by k_mem) (News.pick NN (by k_mem) (News.pick NN (by k_mem) News.nil)))) (show Off I _ by walk_at "OFF") ⟨o3, kvs3, by exact e4, rfl, hd3, by rw [← List.append_assoc, ← List.append_assoc]; exact ht3⟩
      | assert y =>
        obtain ⟨a, w0, w1, w2, w3, w4, n4, rfl, s0, s1, s2, s3, s4, s5⟩ := q2.tup5
        obtain ⟨t, rfl⟩ := s1.str'
        walk_at "GO"
        refine Stop.go (term_K (R := .assert y) (by assumption) (by assumption) X T (Room.deep hr (by decide)) (Is.base (by assumption) q2) hf fun a vs n9 h' tk' F' N' off hi => ?_)
        walk_at "GO"
        refine Stop.go (For_invVF (h₀ := g) (by assumption) (by rfl) (by rfl) ?_)
        k_dflt (refine' ld ?k1 ?k2 ?_; (case k1 => k_asm); (case k2 => exact rfl))
        rename Fr _ _ _ _ => FF
        rename News _ _ _ _ => NN
        rename IntsAre _ _ => HI
        refine (note_turns (ks := upTo (n + 1) ++ blkReads (bs.take i) ++ rowReads x.rows) (fun m => m (Str.ofString "found") = some (.ref D)) [(I, oI), (b, instObj 82 dd), (dd, dictOf es k)] rfl FF NN (by k_mem) HI hbb (by k_mem) (by walk_at "SUB") (by first | assumption | k_ne) (by walk_at "OFF") hd2 ht2 (by exact e2) (fun _ h => h) (by intro _ _ h; exact h) rfl rfl rfl rfl rfl (by with_unfolding_all rfl) fun o3 kvs3 m₃ h tk kk F N hd3 ht3 => ?_)
        have e4 := kk
        clear FF NN
        walk_at "GO"
        rename Fr _ _ _ _ => FF
        rename News _ _ _ _ => NN
        exact TurnT.intro [(D, o3), (b, instObj 82 dd), (dd, dictOf es k)] FF (News.pick NN (by k_mem) (News.pick NN (by k_mem) (News.pick NN (by k_mem) (News.pick NN (by k_mem) News.nil)))) (show Off I _ by walk_at "OFF") ⟨o3, kvs3, by exact e4, rfl, hd3, by rw [← List.append_assoc, ← List.append_assoc]; exact ht3⟩
      | call os goal =>
        obtain ⟨a, w0, w1, w2, w3, w4, n4, rfl, s0, s1, s2, s3, s4, s5⟩ := q2.tup5
        obtain ⟨t, rfl⟩ := s1.str'
        have hz1 : goal.steps.length ≤ 64 := hf.2.2
        have z3 := goal.whole_le hz1
        walk_at "GO"
        refine Stop.go (term_K (R := .call os goal) (by assumption) (by assumption) X T (Room.deep hr (by decide)) (Is.base (by assumption) q2) hf fun a vs n9 h' tk' F' N' off hi => ?_)
        walk_at "GO"
        refine Stop.go (For_invVF (h₀ := g) (by assumption) (by rfl) (by rfl) ?_)
        k_dflt (refine' ld ?k1 ?k2 ?_; (case k1 => k_asm); (case k2 => exact rfl))
        rename Fr _ _ _ _ => FF
        rename News _ _ _ _ => NN
        rename IntsAre _ _ => HI
        refine (note_turns (ks := upTo (n + 1) ++ blkReads (bs.take i) ++ rowReads x.rows) (fun m => m (Str.ofString "found") = some (.ref D)) [(I, oI), (b, instObj 82 dd), (dd, dictOf es k)] rfl FF NN (by k_mem) HI hbb (by k_mem) (by walk_at "SUB") (by first | assumption | k_ne) (by walk_at "OFF") hd2 ht2 (by exact e2) (fun _ h => h) (by intro _ _ h; exact h) rfl rfl rfl rfl rfl (by with_unfolding_all rfl) fun o3 kvs3 m₃ h tk kk F N hd3 ht3 => ?_)
        have e4 := kk
        clear FF NN
        walk_at "GO"
        rename Fr _ _ _ _ => FF
        rename News _ _ _ _ => NN
        exact TurnT.intro [(D, o3), (b, instObj 82 dd), (dd, dictOf es k)] FF (News.pick NN (by k_mem) (News.pick NN (by k_mem) (News.pick NN (by k_mem) (News.pick NN (by k_mem) News.nil)))) (show Off I _ by walk_at "OFF") ⟨o3, kvs3, by exact e4, rfl, hd3, by rw [← List.append_assoc, ← List.append_assoc]; exact ht3⟩
      | drop y =>
        obtain ⟨a, w0, w1, w2, n4, rfl, s0, s1, s2, s3⟩ := q2.tup3
        obtain ⟨t, rfl⟩ := s1.str'
        walk_at "GO"
        refine Stop.go (term_K (R := .drop y) (by assumption) (by assumption) X T (Room.deep hr (by decide)) (Is.base (by assumption) q2) hf fun a vs n9 h' tk' F' N' off hi => ?_)
        walk_at "GO"
        refine Stop.go (For_invVF (h₀ := g) (by assumption) (by rfl) (by rfl) ?_)
        k_dflt (refine' ld ?k1 ?k2 ?_; (case k1 => k_asm); (case k2 => exact rfl))
        rename Fr _ _ _ _ => FF
        rename News _ _ _ _ => NN
        rename IntsAre _ _ => HI
        refine (note_turns (ks := upTo (n + 1) ++ blkReads (bs.take i) ++ rowReads x.rows) (fun m => m (Str.ofString "found") = some (.ref D)) [(I, oI), (b, instObj 82 dd), (dd, dictOf es k)] rfl FF NN (by k_mem) HI hbb (by k_mem) (by walk_at "SUB") (by first | assumption | k_ne) (by walk_at "OFF") hd2 ht2 (by exact e2) (fun _ h => h) (by intro _ _ h; exact h) rfl rfl rfl rfl rfl (by with_unfolding_all rfl) fun o3 kvs3 m₃ h tk kk F N hd3 ht3 => ?_)
        have e4 := kk
        clear FF NN
        walk_at "GO"
        rename Fr _ _ _ _ => FF
        rename News _ _ _ _ => NN
        exact TurnT.intro [(D, o3), (b, instObj 82 dd), (dd, dictOf es k)] FF (News.pick NN (by k_mem) (News.pick NN (by k_mem) (News.pick NN (by k_mem) (News.pick NN (by k_mem) News.nil)))) (show Off I _ by walk_at "OFF") ⟨o3, kvs3, by exact e4, rfl, hd3, by rw [← List.append_assoc, ← List.append_assoc]; exact ht3⟩
      | ret =>
        obtain ⟨a, w0, n4, rfl, s0, s1⟩ := q2.tup1
        obtain ⟨t, rfl⟩ := s1.str'
        walk_at "GO"
        refine Stop.go (term_K (R := .ret) (by assumption) (by assumption) X T (Room.deep hr (by decide)) (Is.base (by assumption) q2) hf fun a vs n9 h' tk' F' N' off hi => ?_)
        walk_at "GO"
        refine Stop.go (For_invVF (h₀ := g) (by assumption) (by rfl) (by rfl) ?_)
        k_dflt (refine' ld ?k1 ?k2 ?_; (case k1 => k_asm); (case k2 => exact rfl))
        rename Fr _ _ _ _ => FF
        rename News _ _ _ _ => NN
        rename IntsAre _ _ => HI
        refine (note_turns (ks := upTo (n + 1) ++ blkReads (bs.take i) ++ rowReads x.rows) (fun m => m (Str.ofString "found") = some (.ref D)) [(I, oI), (b, instObj 82 dd), (dd, dictOf es k)] rfl FF NN (by k_mem) HI hbb (by k_mem) (by walk_at "SUB") (by first | assumption | k_ne) (by walk_at "OFF") hd2 ht2 (by exact e2) (fun _ h => h) (by intro _ _ h; exact h) rfl rfl rfl rfl rfl (by with_unfolding_all rfl) fun o3 kvs3 m₃ h tk kk F N hd3 ht3 => ?_)
        have e4 := kk
        clear FF NN
        walk_at "GO"
        rename Fr _ _ _ _ => FF
        rename News _ _ _ _ => NN
        exact TurnT.intro [(D, o3), (b, instObj 82 dd), (dd, dictOf es k)] FF (News.pick NN (by k_mem) (News.pick NN (by k_mem) (News.pick NN (by k_mem) (News.pick NN (by k_mem) News.nil)))) (show Off I _ by walk_at "OFF") ⟨o3, kvs3, by exact e4, rfl, hd3, by rw [← List.append_assoc, ← List.append_assoc]; exact ht3⟩
      | panic =>
        obtain ⟨a, w0, w1, n4, rfl, s0, s1, s2⟩ := q2.tup2
        obtain ⟨t, rfl⟩ := s1.str'
        walk_at "GO"
        refine Stop.go (term_K (R := .panic) (by assumption) (by assumption) X T (Room.deep hr (by decide)) (Is.base (by assumption) q2) hf fun a vs n9 h' tk' F' N' off hi => ?_)
        walk_at "GO"
        refine Stop.go (For_invVF (h₀ := g) (by assumption) (by rfl) (by rfl) ?_)
        k_dflt (refine' ld ?k1 ?k2 ?_; (case k1 => k_asm); (case k2 => exact rfl))
        rename Fr _ _ _ _ => FF
        rename News _ _ _ _ => NN
        rename IntsAre _ _ => HI
        refine (note_turns (ks := upTo (n + 1) ++ blkReads (bs.take i) ++ rowReads x.rows) (fun m => m (Str.ofString "found") = some (.ref D)) [(I, oI), (b, instObj 82 dd), (dd, dictOf es k)] rfl FF NN (by k_mem) HI hbb (by k_mem) (by walk_at "SUB") (by first | assumption | k_ne) (by walk_at "OFF") hd2 ht2 (by exact e2) (fun _ h => h) (by intro _ _ h; exact h) rfl rfl rfl rfl rfl (by with_unfolding_all rfl) fun o3 kvs3 m₃ h tk kk F N hd3 ht3 => ?_)
        have e4 := kk
        clear FF NN
        walk_at "GO"
        rename Fr _ _ _ _ => FF
        rename News _ _ _ _ => NN
        exact TurnT.intro [(D, o3), (b, instObj 82 dd), (dd, dictOf es k)] FF (News.pick NN (by k_mem) (News.pick NN (by k_mem) (News.pick NN (by k_mem) (News.pick NN (by k_mem) News.nil)))) (show Off I _ by walk_at "OFF") ⟨o3, kvs3, by exact e4, rfl, hd3, by rw [← List.append_assoc, ← List.append_assoc]; exact ht3⟩
      | unreachable =>
        obtain ⟨a, w0, n4, rfl, s0, s1⟩ := q2.tup1
        obtain ⟨t, rfl⟩ := s1.str'
        walk_at "GO"
        refine Stop.go (term_K (R := .unreachable) (by assumption) (by assumption) X T (Room.deep hr (by decide)) (Is.base (by assumption) q2) hf fun a vs n9 h' tk' F' N' off hi => ?_)
        walk_at "GO"
        refine Stop.go (For_invVF (h₀ := g) (by assumption) (by rfl) (by rfl) ?_)
        k_dflt (refine' ld ?k1 ?k2 ?_; (case k1 => k_asm); (case k2 => exact rfl))
        rename Fr _ _ _ _ => FF
        rename News _ _ _ _ => NN
        rename IntsAre _ _ => HI
        refine (note_turns (ks := upTo (n + 1) ++ blkReads (bs.take i) ++ rowReads x.rows) (fun m => m (Str.ofString "found") = some (.ref D)) [(I, oI), (b, instObj 82 dd), (dd, dictOf es k)] rfl FF NN (by k_mem) HI hbb (by k_mem) (by walk_at "SUB") (by first | assumption | k_ne) (by walk_at "OFF") hd2 ht2 (by exact e2) (fun _ h => h) (by intro _ _ h; exact h) rfl rfl rfl rfl rfl (by with_unfolding_all rfl) fun o3 kvs3 m₃ h tk kk F N hd3 ht3 => ?_)
        have e4 := kk
        clear FF NN
        walk_at "GO"
        rename Fr _ _ _ _ => FF
        rename News _ _ _ _ => NN
        exact TurnT.intro [(D, o3), (b, instObj 82 dd), (dd, dictOf es k)] FF (News.pick NN (by k_mem) (News.pick NN (by k_mem) (News.pick NN (by k_mem) (News.pick NN (by k_mem) News.nil)))) (show Off I _ by walk_at "OFF") ⟨o3, kvs3, by exact e4, rfl, hd3, by rw [← List.append_assoc, ← List.append_assoc]; exact ht3⟩
  · rintro m₁ nx h tk ⟨o1, kvs1, e1, rfl, hd1, ht1⟩ (F : Fr g L h _) (N : News g L h _)
    clear FF NN
    rw [show bvs.length = bs.length by simpa using hI'.length, List.take_length] at ht1
    walk_at "GO"
    rename Fr _ _ _ _ => FF
    rename News _ _ _ _ => NN
    exact post D o1 kvs1 _ _ (Old.stays' hold FF NN hown (fun q hq => .tail _ hq)) (Old.fresh' hold NN (.head _) (show Off D _ by walk_at "OFF")) (News.get NN (.head _)) lo hd1 ht1
end

theorem storeX_P {M : Model} {A : Around} {E : Value → Shared → Prop} {s : Shared} {h₀ : Heap} {L a : Addr} {m : Str → Option Value} {cn : Str} {cs : Scope} {ccd : Value} {cl : List (Str × Addr)}
    {x : Str} {v : Value} {Q : Unit → Shared → Prop} {news rest : List (Addr × Obj)} {c : Addr} {o : Obj} {v₀ : Option Value} (F : Fr h₀ L s.heap m) (N : News h₀ L s.heap news) (hc : cl.lookup x = some c) (P : Pull c o news rest) (hoff : Off c rest) (hd : o.data = .cell v₀)
    (h : ∀ h' o', Fr h₀ L h' m → News h₀ L h' ((c, o') :: rest) → o'.data = .cell (some v) → Q () { s with heap := h' })
    (hk : cs.kind = .function := by rfl) (hx : (envX cn cs L a ccd cl).kindOf x = some .cell := by rfl) : wpAny M A (storeName (envX cn cs L a ccd cl) x v) Q E s := by
  have N' : News h₀ L s.heap ((c, o) :: rest) := fun p hp => by
    rcases List.mem_cons.mp hp with rfl | hp
    · exact N _ P.mem
    · exact N _ (P.sub _ hp)
  exact storeX_C F N' hc (.head hoff) hd h hk hx

theorem named_K {w : World} {mean : ExcName → Option Value} {mg mb : Str → Option Value} {g : Heap} {dp un : Nat} {fr : Option (List Env)} {gd : Option (List Code)} {s : Shared} {Q E : Value → Shared → Prop} {L : Addr} {m : Str → Option Value} {news : List (Addr × Obj)}
    {b dd bl : Addr} {es : List DictEntry} {k : Nat} {bvs : List Value} {nb : Nat} {n : Nat} {tn : Tok} {bs : List Blk}
    (F : Fr g L s.heap m) (N : News g L s.heap news) (X : (Mine.K w.params).In g) (T : Top Mine.view (looseW Mine.view []) mean mg mb g)
    (hr : Room dp un 5) (hb : (b, instObj 82 dd) ∈ news) (hd : (dd, dictOf es k) ∈ news)
    (hg1 : getL (Str.ofString "arg_count") es = some (some (.int (n : Int) tn))) (hg2 : getL (Str.ofString "blocks") es = some (some (.ref bl))) (hn : n ≤ 40)
    (hl : (bl, lstO bvs nb) ∈ news) (hI : IsAll (In news) bvs (bs.map Blk.d)) (hok : ∀ x ∈ bs, x.ok) (hz : bs.length ≤ 64)
    (post : ∀ D o kvs h' tk', Fr g L h' m → News g L h' ((D, o) :: news) → (∀ p ∈ news, p.1 ≠ D) → (D == sysModules) = false → o.IsDictOf (PySem.intKind PySem.Challenge.rw_xm0583_01.row.prog w) kvs → Told kvs (upTo (n + 1) ++ blkReads bs) → Q (.ref D) { s with heap := h', toks := tk' }) :
    wpAny (model PySem.Challenge.rw_xm0583_01.row.prog w) (Around.mk none dp fr gd un) (call (.ref 129) [.ref b]) Q E s := by
  refine named_ok X T hr F.keep (N _ hb).1 (N _ hb).2.2 (N _ hd).1 (N _ hd).2.2 hg1 hg2 hn (N _ hl).1 (hI.mono fun a o e => (N (a, o) e).1) hok hz fun D o kvs h' tk' hs hf ha lo hdo ht => ?_
  obtain ⟨F', N', off⟩ := News.keep1 F N hs hf ha
  exact post D o kvs h' tk' F' N' off lo hdo ht

section
variable {prog : Program} {w : World} {A : Around} {E : Value → Shared → Prop} {s : Shared} {g : Heap} {L : Addr} {m : Str → Option Value} {rest news : List (Addr × Obj)}
theorem sort_led {D : Addr} {vs : List Value} {ns : List Int} {n : Nat} {Q : Value → Shared → Prop} (F : Fr g L s.heap m) (N : News g L s.heap ((D, lstO vs n) :: rest)) (hoff : Off D rest) (hi : IntsAre vs ns) (h64 : vs.length < 64)
    (h : ∀ vs' ns' e h', Fr g L h' m → News g L h' ((D, lstO vs' e) :: rest) → IntsAre vs' ns' → ns'.Perm ns → ns'.Pairwise (· ≤ ·) → Q .none { s with heap := h' }) :
    wpAny (model prog w) A (call (.builtin "list.sort") [.ref D]) Q E s := by
  have z := N _ (.head _)
  have ho : s.heap.get? D = some (seqObj "list" vs.toArray n) := z.1
  refine wpAny_call_entry PyProof.Rows.slot_list_sort ⟨_, ho, rfl⟩ PyProof.Rows.entry_list_sort (list_sort_tree (n := n) (vs := vs) ho hi h64 fun out ns' hI hp hP => ⟨.none, rfl, ?_⟩) (PyProof.Rows.args_list_sort _)
  have keep : ∀ b o, b ≠ D → s.heap.get? b = some o → (sortedHeap s.heap D vs out).get? b = some o := fun b o hb e => (sortedHeap_old hb (Heap.lt_size e)).trans e
  obtain ⟨e, he⟩ := sortedHeap_at (out := out) ho
  obtain ⟨oL, a1, a2, hL, a3⟩ := F.ns
  refine h out.toList ns' e (sortedHeap s.heap D vs out) ⟨⟨oL, a1, a2, keep _ _ (Ne.symm z.2.1) hL, a3⟩, fun b o e => keep b o (fun q => ?_) (F.keep b o e), F.above⟩ (fun p hp => ?_) hI hp hP
  · have := z.2.2
    dsimp only at this
    rw [← q, e] at this; cases this
  · rcases List.mem_cons.mp hp with rfl | hp
    · exact ⟨he, z.2⟩
    · exact ⟨keep _ _ (hoff p hp) (N p (.tail _ hp)).1, (N p (.tail _ hp)).2⟩

theorem ints_keys {kvs : List (Int × Value)} {vs : List Value} (hl : vs.length = kvs.length) (hp : ∀ (j : Nat) (v : Value), vs[j]? = some v → ∃ k x, kvs[j]? = some (k, x) ∧ (PySem.intKind prog w).is k v = true) : IntsAre vs (kvs.map (·.1)) := by
  induction vs generalizing kvs with
  | nil =>
    cases kvs with
    | nil => exact .nil
    | cons a r => cases hl
  | cons v vs ih =>
    cases kvs with
    | nil => cases hl
    | cons a r =>
      obtain ⟨k, x, e1, e2⟩ := hp 0 v rfl
      obtain ⟨t, rfl⟩ : ∃ t, v = .int k t := by
        have := kdl_flat_int e2
        exact PyProof.V.Flat.int_inv this
      cases e1
      exact .cons k t (ih (by simpa using hl) fun j u hj => by
        obtain ⟨k', x', e1, e2⟩ := hp (j + 1) u (by simpa using hj)
        exact ⟨k', x', by simpa using e1, e2⟩)

theorem sorted_told {d : Addr} {o : Obj} {kvs : List (Int × Value)} {ks : List Int} {Q : Value → Shared → Prop} (hh : A.handled = none) (F : Fr g L s.heap m) (N : News g L s.heap news) (hm : (d, o) ∈ news) (lo : (d == sysModules) = false) (hd : o.IsDictOf (PySem.intKind prog w) kvs) (ht : Told kvs ks)
    (h : ∀ D vs' ns' c h' tk, Fr g L h' m → News g L h' ((D, lstO vs' c) :: news) → (∀ q ∈ news, q.1 < D) → IntsAre vs' ns' → ns'.Pairwise (· ≤ ·) → ns'.Nodup → (∀ k, k ∈ ns' ↔ k ∈ ks) → Q (.ref D) { s with heap := h', toks := tk }) :
    wpAny (model prog w) A (call (.builtin "sorted") [.ref d]) Q E s := by
  have hD := kda_dict N hm hd
  obtain ⟨ep, hat⟩ := hD.dictAt
  have hl := ht.length (dict_nodup hd)
  refine kdu_sorted (kdl_dict (knd := PySem.intKind prog w) (kvs := kvs) (ep := ep) lo) hh F N hat (by rw [PySem.sizeLine_eq]; omega) fun D h' tk vs F' N' l1 hlen hp => ?_
  have hi := ints_keys hlen hp
  refine sort_led F' N' (fun p hp => Nat.ne_of_lt (l1 p hp)) hi (by omega) fun vs' ns' e h2 F2 N2 i2 p2 q2 => ?_
  exact h D vs' ns' e h2 tk F2 N2 l1 i2 q2 (p2.nodup_iff.mpr (dict_nodup hd)) fun k => (p2.mem_iff).trans (ht.keys k)

/-- two rising lists without doubles with the same items are the same -/
theorem rising_eq : ∀ {a b : List Int}, a.Pairwise (· ≤ ·) → a.Nodup → b.Pairwise (· ≤ ·) → b.Nodup → (∀ k, k ∈ a ↔ k ∈ b) → a = b
  | [], [], _, _, _, _, _ => rfl
  | [], y :: b, _, _, _, _, h => absurd ((h y).mpr (.head _)) (fun h => nomatch h)
  | x :: a, [], _, _, _, _, h => absurd ((h x).mp (.head _)) (fun h => nomatch h)
  | x :: a, y :: b, ha, na, hb, nb, h => by
    have ha' := List.pairwise_cons.mp ha
    have hb' := List.pairwise_cons.mp hb
    have na' := List.nodup_cons.mp na
    have nb' := List.nodup_cons.mp nb
    have e : x = y := by
      have h1 := (h x).mp (.head _)
      have h2 := (h y).mpr (.head _)
      rcases List.mem_cons.mp h1 with e | h1
      · exact e
      · rcases List.mem_cons.mp h2 with e | h2
        · exact e.symm
        · have := ha'.1 y h2
          have := hb'.1 x h1
          omega
    subst e
    rw [rising_eq ha'.2 na'.2 hb'.2 nb'.2 fun k => ?_]
    constructor
    · intro hk
      rcases List.mem_cons.mp ((h k).mp (.tail _ hk)) with e | hk'
      · subst e; exact absurd hk na'.1
      · exact hk'
    · intro hk
      rcases List.mem_cons.mp ((h k).mpr (.tail _ hk)) with e | hk'
      · subst e; exact absurd hk nb'.1
      · exact hk'
theorem upTo_rising (n : Nat) : (upTo n).Pairwise (· ≤ ·) := by
  unfold upTo
  rw [List.pairwise_map]
  exact List.pairwise_lt_range.imp fun h => Int.ofNat_le.mpr (Nat.le_of_lt h)
theorem upTo_nodup (n : Nat) : (upTo n).Nodup := by
  unfold upTo
  rw [List.nodup_iff_pairwise_ne, List.pairwise_map]
  exact List.pairwise_lt_range.imp fun h e => absurd (Int.ofNat.inj e) (Nat.ne_of_lt h)
theorem mem_upTo {n : Nat} {k : Int} : k ∈ upTo n ↔ 0 ≤ k ∧ k < n := by
  unfold upTo
  rw [List.mem_map]
  constructor
  · rintro ⟨i, hi, rfl⟩
    have := List.mem_range.mp hi
    show (0 : Int) ≤ (i : Int) ∧ (i : Int) < n
    omega
  · rintro ⟨h1, h2⟩
    exact ⟨k.toNat, List.mem_range.mpr (by omega), Int.toNat_of_nonneg h1⟩
/-- the law's plain part -/
theorem sorted_is {xs ks ns : List Int} (h1 : xs.Pairwise (· ≤ ·)) (h2 : xs.Nodup) (h3 : ∀ k, k ∈ xs ↔ k ∈ ks) (hb : ∀ k ∈ ks, 0 ≤ k ∧ k < 50) (hn : ∀ k, k ∈ ns ↔ k ∈ ks) : xs = (upTo 50).filter fun k => ns.any (· == k) := by
  refine rising_eq h1 h2 ((upTo_rising 50).filter _) ((upTo_nodup 50).filter _) fun k => ?_
  rw [h3, List.mem_filter, mem_upTo, List.any_eq_true]
  constructor
  · intro hk
    exact ⟨hb k hk, k, (hn k).mpr hk, by simp⟩
  · rintro ⟨_, j, hj, e⟩
    have : j = k := by simpa using e
    subst this
    exact (hn j).mp hj

def intOf : Value → Int
  | .int k _ => k
  | _ => 0
theorem paired_eq : ∀ {l ys : List Value}, Paired (fun v y => y = v) l ys → ys = l
  | _, _, .nil => rfl
  | _, _, .cons e r => by rw [e, paired_eq r]
theorem ints_filter (q : Int → Bool) : ∀ {vs : List Value} {ns : List Int}, IntsAre vs ns → IntsAre (vs.filter fun v => q (intOf v)) (ns.filter q)
  | _, _, .nil => .nil
  | _, _, .cons n t h => by
    rw [List.filter_cons, List.filter_cons]
    show IntsAre (if q n = true then _ else _) _
    split
    · exact .cons n t (ints_filter q h)
    · exact ints_filter q h
theorem ints_of_pos {vs : List Value} : ∀ {n : Nat} {c : Int}, vs.length = n → (∀ (j : Nat) (v : Value), vs[j]? = some v → ∃ t, v = Value.int (c + j) t) → IntsAre vs ((List.range n).map fun i => c + Int.ofNat i) := by
  induction vs with
  | nil => intro n c h _; subst h; exact .nil
  | cons v vs ih =>
    intro n c h hp
    subst h
    obtain ⟨t, rfl⟩ := hp 0 v rfl
    have := ih (n := vs.length) (c := c + 1) rfl fun j u hj => by
      obtain ⟨t, e⟩ := hp (j + 1) u (by simpa using hj)
      exact ⟨t, by rw [e]; congr 1; omega⟩
    rw [List.length_cons, List.range_succ_eq_map, List.map_cons, List.map_map]
    have e : ((fun i => c + Int.ofNat i) ∘ Nat.succ) = fun i => c + 1 + Int.ofNat i := by
      funext i
      show c + ((i + 1 : Nat) : Int) = c + 1 + (i : Int)
      omega
    rw [e]
    exact .cons _ t this
theorem news_grown {h h' : Heap} {news : List (Addr × Obj)} (N : News g L h news) (F : Fr g L h m) {x : Str → Option Value} {D : Addr} {o : Obj} (hL : h'.Ns L x) (hk : ∀ b o, b ≠ L → h.get? b = some o → h'.get? b = some o) (hD : h.get? D = none) (ho : h'.get? D = some o) :
    Fr g L h' x ∧ News g L h' ((D, o) :: news) ∧ ∀ p ∈ news, p.1 ≠ D := by
  have hLD : L ≠ D := by rintro rfl; obtain ⟨oL, _, _, q, _⟩ := F.ns; rw [hD] at q; cases q
  refine ⟨⟨hL, fun b o e => hk b o (Nat.ne_of_lt (Nat.lt_of_lt_of_le (Heap.lt_size e) F.above)) (F.keep b o e), F.above⟩, fun p hp => ?_, fun p hp e => ?_⟩
  · rcases List.mem_cons.mp hp with rfl | hp
    · refine ⟨ho, Ne.symm hLD, ?_⟩
      cases q : g.get? D with
      | none => rfl
      | some z => have := F.keep _ _ q; rw [hD] at this; cases this
    · exact ⟨hk _ _ (N p hp).2.1 (N p hp).1, (N p hp).2⟩
  · have := (N p hp).1
    rw [e, hD] at this; cases this

/-- a name is set to [x for x in range(..) if x in c], c a cell with a list of ints -/
theorem filter_Assign {env : Env} {iter : Expr} {x y c : Str} {p1 p2 p3 p4 px py pos spos : Pos} {scope : Scope} {cl : List (Str × Addr)} {Q : Flow → Shared → Prop} {E : Value → Shared → Prop} {cc l : Addr} {oc : Obj} {us : List Value} {k : Nat} {ns : List Int}
    (_F₀ : Fr g env.locals s.heap m) (_N₀ : News g env.locals s.heap news)
    (hsw : swapsWith (.ListComp (.Name x p1) [⟨.Name x px, iter, [.Compare (.Name x p2) [.In] [.Name c p3] p4], 0⟩] scope pos) (some (.Name y py)) spos.line env = pure true)
    (hh : A.handled = none) (hclos : closureFor scope env = pure cl) (hcell : ∀ z ∈ scope.names, z.2 ≠ .cell) (hkind : scope.kind = .function)
    (hnames : ∀ z ∈ scope.names, z.2 = .local → scope.names.lookup z.1 = some .local) (hx : scope.names.lookup x = some .local) (hdb : (x == ("__debug__" : Str)) = false) (hdc : (c == ("__debug__" : Str)) = false)
    (hck : ∀ C, (compEnvC scope cl C env).scope.kind = .function) (hcx : ∀ C, (compEnvC scope cl C env).kindOf x = some .local) (hcc : ∀ C, (compEnvC scope cl C env).kindOf c = some .cell) (hcl : cl.lookup c = some cc)
    (hy : env.kindOf y = some .local) (hp : (env.scope.kind == .class || (env.scope.kind == .module && env.locals != env.globals)) = false)
    (hm1 : (cc, oc) ∈ news) (hoc : oc.data = .cell (some (.ref l))) (hm2 : (l, lstO us k) ∈ news) (hi : IntsAre us ns)
    (h : wpAny (model prog w) A (eval iter env) (fun xv s₁ => ∃ r b₀ t₀ u₀ v₀, ∃ n : Nat, xv = .ref r ∧ IsRange s₁.heap r 0 b₀ 1 t₀ u₀ v₀ ∧ Builtin.Range.small 0 b₀ 1 = true ∧ Builtin.Range.rangeSize 0 b₀ 1 = (n : Int) ∧ n ≤ 50 ∧ Fr g env.locals s₁.heap m ∧ News g env.locals s₁.heap news ∧
      ∀ D ws q h' tk, Fr g env.locals h' (fun z => if z = y then some (.ref D) else m z) → News g env.locals h' ((D, lstO ws q) :: news) → (∀ p ∈ news, p.1 ≠ D) → IntsAre ws ((upTo n).filter fun k => ns.any (· == k)) → Q .next { s₁ with heap := h', toks := tk }) E s)
    (hs : ∀ x, foldedSetIterable iter env x = pure x) (hmk : behindInMarks .In (.Name c p3) = false) :
    wpAny (model prog w) A (exec (.Assign [.Name y py] (.ListComp (.Name x p1) [⟨.Name x px, iter, [.Compare (.Name x p2) [.In] [.Name c p3] p4], 0⟩] scope pos) spos) env) Q E s := by
  refine wpAny_Assign_ListComp_free (fun v => ns.any (· == intOf v)) (fun v y => y = v) hsw hclos hcell hkind hnames hx hy hp (wpAny_mono h (fun xv s₁ h₁ => ?_) fun _ _ e => e) hs
  obtain ⟨r, b₀, t₀, u₀, v₀, n, rfl, hr, hsmall, hn, hz, F, N, hQ⟩ := h₁
  refine wpAny_pyIter_range hr hsmall ?_
  have W : Walks prog w A s₁.heap.objs.size [s₁.heap.objs.size] [s₁.heap.objs.size] n (fun i v => ∃ t, v = .int (0 + i * 1) t)
      (fun i h => IsRangeIter h s₁.heap.objs.size (0 + (i : Nat) * 1) ((n : Int) - (i : Nat)) 1) := Walks.range hh _ 0 1 n
  have hLf : env.locals ∉ [s₁.heap.objs.size] := fun hm => by
    rcases List.mem_cons.mp hm with e | hm
    · exact Nat.lt_irrefl _ (e ▸ F.ns.lt)
    · cases hm
  have up : ∀ (h' : Heap), (∀ b o, b ∉ [s₁.heap.objs.size] → (s₁.heap.push { cls := .type "range_iterator", data := .fields #[rawInt 0, rawInt (Builtin.Range.rangeSize 0 b₀ 1), rawInt 1] }).get? b = some o → h'.get? b = some o) → ∀ b o, s₁.heap.get? b = some o → h'.get? b = some o :=
    fun h' hk b o e => hk b o (fun hm => by rcases List.mem_cons.mp hm with rfl | hm; exact Nat.lt_irrefl _ (Heap.lt_size e); cases hm) (Heap.get?_push_of_some _ e)
  refine ⟨_, _, _, _, _, _, m, rfl, W, by rw [PySem.sizeLine_eq]; omega, ?_, ?_, hLf, F.ns.push _, ⟨?_, ?_⟩, ?_⟩
  · show IsRangeIter _ _ _ _ _
    rw [hn]; simpa using Heap.get?_push_size _ rfl
  · intro b hb
    show b < (s₁.heap.push _).objs.size
    rw [Heap.size_push, List.mem_singleton.mp hb]
    exact Nat.lt_succ_self _
  · intro C i v s₃ m₃ E' _ hP hns hm hk _
    obtain ⟨t, rfl⟩ := hP
    have k₃ := up s₃.heap hk
    refine wpAny_tests_one (wpAny_isTrue_Compare1 (wpAny_Name (wpAny_loadName_local (hck C) (hcx C) hns hm (wpAny_Name (wpAny_loadName_cell (hck C) (hcc C) hcl ⟨oc, k₃ _ _ (N _ hm1).1, hoc⟩ ?_) hdc)) hdb) hmk)
    exact in_list_ints ⟨_, k₃ _ _ (N _ hm2).1, rfl, k, rfl⟩ hi (wpAny_truthy_bool ⟨rfl, _, _, rfl, fun b o q => q⟩)
  · intro C i v s₃ m₃ E' _ hP _ hns hm hk _
    exact wpAny_Name (wpAny_loadName_local (hck C) (hcx C) hns hm ⟨rfl, _, _, rfl, fun b o q => q⟩) hdb
  · intro D h' tk ys vs' hD hl hpl hlen hP hF hnsL hk
    obtain ⟨q, hpl⟩ := hpl
    have hD₁ : s₁.heap.get? D = none := by
      cases e : s₁.heap.get? D with
      | none => rfl
      | some o' => rw [Heap.get?_push_of_some _ e] at hD; cases hD
    obtain ⟨F', N', off⟩ := news_grown N F hnsL (fun b o hb e => hk b o hb (fun hm => by rcases List.mem_cons.mp hm with rfl | hm; exact Nat.lt_irrefl _ (Heap.lt_size e); cases hm) (Heap.get?_push_of_some _ e)) hD₁ hpl
    have e1 := paired_eq hF
    have i1 : IntsAre vs' (upTo n) := by
      have := ints_of_pos (c := 0) hlen fun j v hj => by
        obtain ⟨t, e⟩ := hP j v hj
        exact ⟨t, by rw [e]; simp⟩
      rw [show (fun i => (0 : Int) + Int.ofNat i) = Int.ofNat from funext fun i => Int.zero_add _] at this
      exact this
    refine hQ D ys.toList q h' tk F' (by simpa using N') off ?_
    rw [e1]
    exact ints_filter (fun k => ns.any (· == k)) i1

/-- [x for x in d if not d[x]], d a cell with a dict that says True everywhere -/
theorem none_left {env : Env} {x c : Str} {p1 p2 p3 p4 p5 pd px pos : Pos} {scope : Scope} {cl : List (Str × Addr)} {Q : Value → Shared → Prop} {E : Value → Shared → Prop} {cc d : Addr} {oc od : Obj} {kvs : List (Int × Value)} {ks : List Int}
    (F₀ : Fr g env.locals s.heap m) (N₀ : News g env.locals s.heap news)
    (hh : A.handled = none) (hclos : closureFor scope env = pure cl) (hcell : ∀ z ∈ scope.names, z.2 ≠ .cell) (hkind : scope.kind = .function)
    (hnames : ∀ z ∈ scope.names, z.2 = .local → scope.names.lookup z.1 = some .local) (hx : scope.names.lookup x = some .local) (hdb : (x == ("__debug__" : Str)) = false) (hdc : (c == ("__debug__" : Str)) = false)
    (hck : ∀ C, (compEnvC scope cl C env).scope.kind = .function) (hcx : ∀ C, (compEnvC scope cl C env).kindOf x = some .local) (hcc : ∀ C, (compEnvC scope cl C env).kindOf c = some .cell) (hcl : cl.lookup c = some cc)
    (hek : env.scope.kind = .function) (hec : env.kindOf c = some .cell) (hcl2 : env.cells.lookup c = some cc)
    (hm1 : (cc, oc) ∈ news) (hoc : oc.data = .cell (some (.ref d))) (hm2 : (d, od) ∈ news) (lo : (d == sysModules) = false) (hd : od.IsDictOf (PySem.intKind prog w) kvs) (ht : Told kvs ks)
    (h : ∀ D q h' tk, Fr g env.locals h' m → News g env.locals h' ((D, lstO [] q) :: news) → (∀ p ∈ news, p.1 ≠ D) → Q (.ref D) { s with heap := h', toks := tk })
    (hs : ∀ x, foldedSetIterable (.Name c pd) env x = pure x)
    (hsub : ∀ C r t, subscripted (.Name x p3) false (.ref r) (.int C t) = operate [.ref r, .int C t] (getItem (.ref r) (.int C t))) (hgo : ∀ a r, letTemporaryGo (.Name c p2) (.ref a) r = pure ()) :
    wpAny (model prog w) A (eval (.ListComp (.Name x p1) [⟨.Name x px, .Name c pd, [.UnaryOp .Not (.Subscript (.Name c p2) (.Name x p3) p4) p5], 0⟩] scope pos) env) Q E s := by
  refine wpAny_ListComp_free (fun _ => false) (fun v y => y = v) hclos hcell hkind hnames hx ?_ hs
  refine wpAny_Name (wpAny_loadName_cell hek hec hcl2 ⟨oc, (N₀ _ hm1).1, hoc⟩ ?_) hdc
  have hD := kda_dict N₀ hm2 hd
  obtain ⟨ep, hat⟩ := hD.dictAt
  have hl := ht.length (dict_nodup hd)
  refine wpAny_pyIter_dict lo hat ?_
  have up : ∀ (h' : Heap), (∀ b o, b ∉ [s.heap.objs.size] → (s.heap.push { cls := .type "dict_keyiterator", data := .fields #[.ref d, .int 0 0, .int kvs.length 0, .int ep 0] }).get? b = some o → h'.get? b = some o) → ∀ b o, s.heap.get? b = some o → h'.get? b = some o :=
    fun h' hk b o e => hk b o (fun hm => by rcases List.mem_cons.mp hm with rfl | hm; exact Nat.lt_irrefl _ (Heap.lt_size e); cases hm) (Heap.get?_push_of_some _ e)
  refine ⟨_, _, _, _, _, _, rfl, Walks.dictKeys hh _ d (Nat.ne_of_lt hat.lt_size) kvs ep, by rw [PySem.sizeLine_eq]; omega, ⟨⟨_, Heap.get?_push_size _ rfl, rfl, rfl⟩, hat.push _⟩, ?_, ⟨?_, ?_⟩, ?_⟩
  · intro b hb
    show b < (s.heap.push _).objs.size
    rw [Heap.size_push]
    rcases List.mem_cons.mp hb with rfl | hb
    · exact Nat.lt_succ_self _
    · rw [List.mem_singleton.mp hb]; exact Nat.lt_succ_of_lt hat.lt_size
  · intro C i v s₃ m₃ E' _ hP hns hm hk _
    obtain ⟨kk, xx, hkx, hkv⟩ := hP
    obtain ⟨t, rfl⟩ := PyProof.V.Flat.int_inv (kdl_flat_int hkv)
    have k₃ := up s₃.heap hk
    have hmem := List.mem_of_getElem? hkx
    have hxx := ht.vals _ hmem
    dsimp only at hxx
    subst hxx
    have hD₃ : s₃.heap.DictOf (PySem.intKind prog w) d kvs := hD.keep k₃
    have hva : valueAt kvs kk = some (.bool true) := by
      unfold valueAt
      cases e : kvs.find? fun kv => kv.1 = kk with
      | none =>
        have := List.find?_eq_none.mp e _ hmem
        simp at this
      | some p => rw [Option.map_some, ht.vals p (List.mem_of_find?_eq_some e)]
    refine wpAny_tests_one (wpAny_isTrue_Not (wpAny_isTrue_value (Subscript_ (wpAny_Name (wpAny_loadName_cell (hck C) (hcc C) hcl ⟨oc, k₃ _ _ (N₀ _ hm1).1, hoc⟩ (wpAny_Name (wpAny_loadName_local (hck C) (hcx C) hns hm ?_) hdb)) hdc))))
    exact subscriptTail_builtin hD₃.typeIs slot_dict_getitem.lookup (wpAny_getItem_of (intKind_is _ _ _ _) hD₃.mapOf hva (wpAny_truthy_bool ⟨rfl, _, _, rfl, fun b o q => q⟩)) (hsub _ _ _) (hgo _)
  · intro C i v s₃ m₃ E' _ hP hf
    exact absurd hf Bool.false_ne_true
  · intro D h' tk ys vs' hD' hl hpl hlen hP hF hk
    obtain ⟨q, hpl⟩ := hpl
    have hD₁ : s.heap.get? D = none := by
      cases e : s.heap.get? D with
      | none => rfl
      | some o' => rw [Heap.get?_push_of_some _ e] at hD'; cases hD'
    obtain ⟨F', N', off⟩ := News.keep1 F₀ N₀ (up h' hk) hD₁ hpl
    have e1 := paired_eq hF
    rw [List.filter_eq_nil_iff.mpr (fun _ _ => Bool.false_ne_true)] at e1
    refine h D q h' tk F' (by have e2 : ys = #[] := by simpa using e1
                              subst e2; exact N') off
end

def In50 (l : List Int) : Prop := ∀ k ∈ l, 0 ≤ k ∧ k < 50
theorem In50.app {a b : List Int} (h : In50 a) (t : In50 b) : In50 (a ++ b) := fun k hk => (List.mem_append.mp hk).elim (h k) (t k)
theorem In50.nil : In50 [] := fun _ h => nomatch h
theorem Place.good.whole50 {p : Place} (h : p.good) : In50 p.whole := fun k hk => by
  rcases List.mem_cons.mp hk with rfl | hk
  · have := h.loc; omega
  · have := h.idx k hk; omega
theorem Place.good.set50 {p : Place} (h : p.good) : In50 p.set := fun k hk => by
  rcases List.mem_append.mp hk with hk | hk
  · have := h.idx k hk; omega
  · split at hk
    · cases hk
    · rw [List.mem_singleton.mp hk]; have := h.loc; omega
theorem Operand.good.in50 {x : Operand} (h : x.good) : In50 x.reads := by
  cases x with
  | copy p => exact Place.good.whole50 h
  | move p => exact Place.good.whole50 h
  | const n => exact In50.nil
theorem all50 {xs : List Operand} (h : ∀ x ∈ xs, x.good) : In50 (allReads xs) := fun k hk => by
  obtain ⟨x, hx, hk⟩ := List.mem_flatMap.mp hk
  exact (h x hx).in50 k hk
theorem Rvalue.good.in50 {x : Rvalue} (h : x.good) : In50 x.reads := by
  cases x with
  | ref p => exact Place.good.whole50 h
  | discr p => exact Place.good.whole50 h
  | _ => exact all50 h.1
theorem Row.good.in50 {x : Row} (h : x.good) : In50 x.reads := by
  cases x with
  | assign p r => exact In50.app h.2.in50 h.1.whole50
  | print y => exact Operand.good.in50 h
  | _ => exact In50.nil
theorem Row.good.ok {x : Row} (h : x.good) : x.ok := by
  cases x with
  | assign p r => exact ⟨Nat.le_trans h.1.len (by decide), h.2.ok⟩
  | print y => exact Operand.good.ok h
  | _ => trivial
theorem Row.good.le {x : Row} (h : x.good) : x.reads.length ≤ 4300 := by
  cases x with
  | assign p r =>
    have h1 := r.reads_le h.2.ok
    have h2 := p.whole_le (Nat.le_trans h.1.len (by decide))
    show (r.reads ++ p.whole).length ≤ _
    rw [List.length_append]; omega
  | print y => exact Nat.le_trans (y.reads_le (Operand.good.ok h)) (by decide)
  | _ => exact Nat.zero_le _
theorem ends_good {x : Operand} {xs : List Operand} {p q : Place} (h1 : x.good) (h2 : ∀ y ∈ xs, y.good) (h3 : xs.length ≤ 3) (h4 : p.good) (h5 : q.good) {t : Term} (ht : t ∈ ends x xs p q) : t.ok ∧ In50 (t.reads ++ t.more) := by
  unfold ends at ht
  simp only [List.mem_cons, List.not_mem_nil, or_false] at ht
  rcases ht with rfl | rfl | rfl | rfl | rfl | rfl | rfl | rfl
  · exact ⟨trivial, In50.nil⟩
  · exact ⟨h1.ok, In50.app h1.in50 In50.nil⟩
  · exact ⟨h1.ok, In50.app h1.in50 In50.nil⟩
  · exact ⟨⟨fun y hy => (h2 y hy).ok, Nat.le_trans h3 (by decide), Nat.le_trans h4.len (by decide)⟩, In50.app (In50.app (all50 h2) h4.set50) h4.whole50⟩
  · exact ⟨Nat.le_trans h5.len (by decide), In50.app h5.whole50 In50.nil⟩
  · exact ⟨trivial, fun k hk => by
      have : k ∈ [(0 : Int)] := hk
      rw [List.mem_singleton.mp this]; decide⟩
  · exact ⟨trivial, In50.nil⟩
  · exact ⟨trivial, In50.nil⟩
theorem rowReads_le : ∀ (rs : List Row), (∀ r ∈ rs, r.good) → (rowReads rs).length ≤ 4300 * rs.length
  | [], _ => Nat.le_refl _
  | r :: rs, h => by
    have h1 := (h r (.head _)).le
    have h2 := rowReads_le rs fun x hx => h x (.tail _ hx)
    show (r.reads ++ rowReads rs).length ≤ _
    rw [List.length_append, List.length_cons]; omega
theorem mk_ok {rs : List Row} {t : Term} (h1 : ∀ r ∈ rs, r.good) (h2 : rs.length ≤ 3) (h3 : t.ok) (h4 : In50 (t.reads ++ t.more)) : (Blk.mk rs t).ok :=
  ⟨fun r hr => (h1 r hr).ok, Nat.le_trans h2 (by decide), h3, fun k hk => by
    rcases List.mem_append.mp hk with hk | hk
    · obtain ⟨r, hr, hk⟩ := List.mem_flatMap.mp hk
      exact (h1 r hr).in50 k hk
    · exact h4 k hk⟩

theorem enterI {prog : Program} {w : World} {K : Frag} {p : Program} {loose : List Str} {mean : ExcName → Option Value} {mg mb : Str → Option Value} {g₀ : Heap}
    {A : Around} {s : Shared} (own : List (Addr × Obj)) {f : Addr} {vals : List Value} {R : Result → Shared → Prop}
    {name qual : Str} {params : Arguments} {body : List Stmt} {scope : Scope} {dV kV doc pm cdv ct oc : Value} {an od : Option Addr} {osl : Array (Option Value)} {binds : List (Str × Value)}
    (X : K.In g₀) (T : Top p loose mean mg mb g₀) (hk : g₀.StaysIn s.heap) (hown : ∀ q ∈ own, s.heap.get? q.1 = some q.2 ∧ g₀.get? q.1 = none)
    (ho : K.lookup f = some ⟨oc, od, .func (fnOf name qual params body scope dV kV doc pm an cdv ct), osl⟩) (hcd : codeIn K cdv qual = true) (hroom : A.depth < recursionLimit)
    (hbind : BindsTo s (fnOf name qual params body scope dV kV doc pm an cdv ct) ⟨vals, []⟩ binds) (hloc : ∀ y ∈ binds, scope.names.lookup y.1 = some .local)
    (h : ∀ g L' h₁ tk, Fr g L' h₁ (fun y => binds.reverse.lookup y) → News g L' h₁ own → K.In g → Top p loose mean mg mb g → Old own s.heap g → L' = s.heap.objs.size →
      wpAny (model prog w) (A.deeper (envOf qual scope L' f cdv)) (execs body (envOf qual scope L' f cdv))
        (fun fl s' => R (.ok (.ret (match fl with | .ret v => v | _ => .none))) s') (fun _ _ => False)
        { s with heap := h₁, toks := tk })
    (hco : scope.isCoroutine = false) (hgen : scope.isGenerator = false) (hkd : scope.kind = .function)
    (hcell : ∀ x ∈ scope.names, x.2 ≠ .cell) : codeAny (model prog w) A (.call (.ref f) ⟨vals, []⟩) R s := by
  have K' : K.In s.heap := X.keeps hk
  refine (codeAny_call_def (fd := fnOf name qual params body scope dV kV doc pm an cdv ct) (body := body) (binds := binds) hroom (K' _ _ ho) rfl (T.nolimit.keeps hk) (codeRec_of K' hcd) rfl hbind hcell hloc (fun h₁ hns hk₁ => ?_) hco hgen hkd)
  have st : g₀.StaysIn (hideAll s.heap (own.map (·.1))) := fun b o e => hideAll_get _ (hk b o e) (fun q => by
    obtain ⟨p, hp, rfl⟩ := List.mem_map.mp q
    rw [(hown p hp).2] at e; cases e)
  refine wpAny_mono (h (hideAll s.heap (own.map (·.1))) s.heap.objs.size h₁ _ ⟨hns, fun b o e => hk₁ b o (of_hideAll _ e), Nat.le_of_eq (hideAll_size _ _)⟩
    (fun p hp => ⟨hk₁ _ _ (hown p hp).1, Nat.ne_of_lt (Heap.lt_size (hown p hp).1), hideAll_none _ (List.mem_map_of_mem hp)⟩) (Frag.In.keeps X fun b o => st b o) (T.keeps fun b o => st b o)
    (fun b o hb e => hideAll_get _ e (fun q => by
      obtain ⟨p, hp, rfl⟩ := List.mem_map.mp q
      exact hb p hp rfl)) rfl) (fun fl s' hq => hq) (fun _ _ x => x.elim)

theorem Old.ext2 {x dx L : Addr} {o p : Obj} {s g h' : Heap} {m' : Str → Option Value} (H : Old [(x, o), (dx, p)] s g) (F : Fr g L h' m') (hx : s.get? x = some o) (hx' : h'.get? x = some o) : Heap.ExtBut dx s h' := by
  intro b o' hb e
  by_cases q : x = b
  · subst q
    rw [hx] at e; cases e; exact hx'
  · refine F.keep b o' (H b o' (fun r hr => ?_) e)
    rcases List.mem_cons.mp hr with rfl | hr
    · exact q
    · rw [List.mem_singleton.mp hr]; exact Ne.symm hb

theorem init_ok {w : World} {mean : ExcName → Option Value} {mg mb : Str → Option Value} {g₀ : Heap} (X : (Mine.K w.params).In g₀) (T : Top Mine.view (looseW Mine.view []) mean mg mb g₀)
    {A : Around} {s : Shared} {R : Result → Shared → Prop} {x dx lt bl : Addr} {ka : Int} {ta tf : Tok} {f : Str}
    (hk : g₀.StaysIn s.heap) (hroom : A.depth < recursionLimit) (hh : A.handled = none) (hx : s.heap.get? x = some (instObj 82 dx)) (hx₀ : g₀.get? x = none) (hd : s.heap.get? dx = some (dictOf [] 0)) (hd₀ : g₀.get? dx = none)
    (hl : s.heap.get? lt = some (listOf #[] 0)) (hld : @LT.lt Nat _ lt dx) (hxd : @LT.lt Nat _ dx x)
    (post : ∀ es k h' tk', Heap.ExtBut dx s.heap h' → h'.get? dx = some (dictOf es k) → getL (Str.ofString "arg_count") es = some (some (.int ka ta)) → getL (Str.ofString "blocks") es = some (some (.ref bl)) → R (.ok (.ret (.ref x))) { s with heap := h', toks := tk' }) :
    codeAny (model PySem.Challenge.rw_xm0583_01.row.prog w) A (.call (.ref 36) ⟨[.ref x, .str f tf, .int ka ta, .ref lt, .ref bl], []⟩) (InitBack x R) s := by
  w_top off
  obtain ⟨hd', dp, fr, gd, un⟩ := A
  dsimp only at hh
  subst hh
  revert X
  k_fill
  intro X
  k_dflt (refine' enterI [(x, instObj 82 dx), (dx, dictOf [] 0)] X T hk ?ko ?k6 ?k7 ?k8 ?k9 ?kB ?_ ?c2 ?c3 ?c4 ?c5)
  case ko => exact own_two hx hx₀ hd hd₀
  case k6 => k_is
  case k7 => k_is
  case k8 => exact hroom
  case k9 => exact binds_K (X.keeps hk) rfl (by k_is) rfl rfl rfl
  case c5 => decide
  case kB => exact locs rfl
  case c2 => exact rfl
  case c3 => exact rfl
  case c4 => exact rfl
  k_whole
  clear X T
  intro g L h tk F N X T hold hL
  have hl' : g.IsList lt #[] := ⟨_, hold _ _ (fun q hq e => by rcases List.mem_cons.mp hq with rfl | hq; exact Nat.lt_irrefl _ (Nat.lt_trans hld (e ▸ hxd)); rw [List.mem_singleton.mp hq] at e; exact Nat.lt_irrefl _ (e ▸ hld)) hl, rfl, 0, rfl⟩
  k_with_none
  walk_at "GO"
  refine ⟨rfl, post _ _ _ _ (Old.ext2 hold (by assumption) hx (News.get (by assumption) (.tail _ (.tail _ (.head _))))) (News.get (by assumption) (.tail _ (.tail _ (.tail _ (.head _))))) (by k_get) (by k_get)⟩

/-- Body('f', args, [], blocks), in a frame -/
theorem body_K {w : World} {mean : ExcName → Option Value} {mg mb : Str → Option Value} {g : Heap} {A : Around} {s : Shared} {Q E : Value → Shared → Prop} {L lt bl : Addr} {m : Str → Option Value} {news : List (Addr × Obj)} {ka : Int} {ta tf : Tok} {f : Str}
    (F : Fr g L s.heap m) (N : News g L s.heap news) (X : (Mine.K w.params).In g) (T : Top Mine.view (looseW Mine.view []) mean mg mb g)
    (hroom : A.depth + 1 < recursionLimit) (hh : A.handled = none) (hl : (lt, listOf #[] 0) ∈ news)
    (h : ∀ x dx es k h' tk', Fr g L h' m → News g L h' ((x, instObj 82 dx) :: (dx, dictOf es k) :: news) → (∀ p ∈ news, p.1 < dx) → @LT.lt Nat _ dx x → getL (Str.ofString "arg_count") es = some (some (.int ka ta)) → getL (Str.ofString "blocks") es = some (some (.ref bl)) → Q (.ref x) { s with heap := h', toks := tk' }) :
    wpAny (model PySem.Challenge.rw_xm0583_01.row.prog w) A (call (.ref 82) [.str f tf, .int ka ta, .ref lt, .ref bl]) Q E s := by
  w_top off
  revert X
  k_fill
  intro X
  k_dflt (refine' call_cls F X N ?k4 ?k5 ?k6 ?_)
  case k4 => k_is
  case k5 => k_is
  case k6 => k_is
  k_whole
  intro x dx h1 F1 N1 l1 l2
  have hN := l1 _ hl
  refine init_ok X T F1.keep ?_ ?_ (N1 _ (.head _)).1 (N1 _ (.head _)).2.2 (N1 _ (.tail _ (.head _))).1 (N1 _ (.tail _ (.head _))).2.2 (N1 _ (.tail _ (.tail _ hl))).1 hN l2 fun es k h' tk' hx hd e1 e2 => ?_
  · show A.depth + _ < recursionLimit
    exact hroom
  · exact hh
  · have z := N1 _ (.tail _ (.head _))
    dsimp only at z
    obtain ⟨oL, a1, a2, hL, a3⟩ := F1.ns
    refine h x dx es k h' tk' ⟨⟨oL, a1, a2, hx _ _ (Ne.symm z.2.1) hL, a3⟩, fun b o e => hx b o (fun q => by rw [q, z.2.2] at e; cases e) (F1.keep b o e), F1.above⟩ (fun p hp => ?_) l1 l2 e1 e2
    rcases List.mem_cons.mp hp with rfl | hp
    · exact ⟨hx _ _ (Nat.ne_of_gt l2) (N1 _ (.head _)).1, (N1 _ (.head _)).2⟩
    · rcases List.mem_cons.mp hp with rfl | hp
      · exact ⟨hd, z.2⟩
      · exact ⟨hx _ _ (Nat.ne_of_lt (l1 p hp)) (N1 p (.tail _ (.tail _ hp))).1, (N1 p (.tail _ (.tail _ hp))).2⟩

section
theorem Off.cons2 {src a : Addr} {o : Obj} {l : List (Addr × Obj)} (h : @Ne Nat a src) (t : Off src l) : Off src ((a, o) :: l) := Off.cons h t
local macro_rules | `(tactic| walk_at "OFF") => `(tactic| (repeat (first | exact Off.nil | with_reducible assumption | (refine Off.cons2 ?_ ?_; (first | with_reducible assumption | exact Ne.symm (by with_reducible assumption) | k_ne)) | refine Off.app ?_ ?_)))
local macro_rules | `(tactic| walk_at "exec Assign cons ListComp") => `(tactic| (k_here; refine Stop.of ?_))
local macro_rules | `(tactic| walk_at "eval Name") => `(tactic| (k_here; (with_reducible show wpAny _ _ (eval (Expr.Name (Str.ofString "named") _) (envOfC _ _ _ _ _)) _ _ _); walk_at "CELL"))
local macro_rules | `(tactic| walk_at "eval Name") => `(tactic| (k_here; (with_reducible show wpAny _ _ (eval (Expr.Name (Str.ofString "found") _) (envOfC _ _ _ _ _)) _ _ _); walk_at "CELL"))
local macro_rules | `(tactic| walk_at "STORE") => `(tactic| (k_dflt (refine' storeX_P ?F ?N ?c ?P ?o ?d ?_ ?a ?b; (case a => rfl); (case b => rfl); (case F => k_asm); (case N => k_asm); (case c => rfl); (case P => walk_at "PULL"); (case o => walk_at "OFF"); (case d => assumption); k_whole); intro h' o' F' N' d'; (try k_sweep)))
local macro_rules | `(tactic| walk_at "storeName") => `(tactic| (k_here; (with_reducible show wpAny _ _ (storeName (envOfC _ _ _ _ _) (Str.ofString "named") _) _ _ _); walk_at "STORE"))
local macro_rules | `(tactic| walk_at "storeName") => `(tactic| (k_here; (with_reducible show wpAny _ _ (storeName (envOfC _ _ _ _ _) (Str.ofString "found") _) _ _ _); walk_at "STORE"))

local macro_rules | `(tactic| walk_at "SIZE") => `(tactic| first | with_reducible assumption | ((try simp only [PySem.sizeLine_eq, List.length_cons, List.length_nil, List.length_append, List.length_map, List.size_toArray]); omega))
theorem size_row {a b c d : List Int} {i n : Nat} (h1 : a.length + b.length ≤ 100 + 30000 * i) (hi : i < 2) (h2 : c.length ≤ 4300 * n) (hn : n ≤ 3) (h3 : d.length ≤ 4300) : ((a ++ b) ++ c).length + d.length ≤ sizeLine := by
  rw [PySem.sizeLine_eq, List.length_append, List.length_append]; omega
theorem size_end {a b c d e : List Int} {i n : Nat} (h1 : a.length + b.length ≤ 100 + 30000 * i) (hi : i < 2) (h2 : c.length ≤ 4300 * n) (hn : n ≤ 3) (h3 : d.length ≤ 4300) (h4 : e.length ≤ 65) : (((a ++ b) ++ c) ++ d).length + e.length ≤ sizeLine := by
  rw [PySem.sizeLine_eq, List.length_append, List.length_append, List.length_append]; omega
theorem Room.make {hd : Option Value} {fr : Option (List Env)} {gd : Option (List Code)} {env : Env} {dp un l : Nat} (h : Room dp un l) : ((Around.mk hd dp fr gd un).deeper env).depth + 1 < recursionLimit := by
  have e : recursionLimit = 1000 := rfl
  show dp + 1 + 1 < _
  unfold Room at h; omega
theorem rangeKs_upTo (na : Nat) : rangeKs 0 ((na : Int) + 1 - 0).toNat = upTo (na + 1) := by
  rw [show ((na : Int) + 1 - 0).toNat = na + 1 from by omega]
  exact List.map_congr_left fun i _ => Int.zero_add _
theorem ht50 {na : Nat} {bs : List Blk} {k : Int} (hn : na < 3) (hok : ∀ b ∈ bs, b.ok) (hk : k ∈ upTo (na + 1) ++ blkReads bs) : 0 ≤ k ∧ k < 50 := by
  rcases List.mem_append.mp hk with hk | hk
  · have := mem_upTo.mp hk
    omega
  · obtain ⟨b, hb, hk⟩ := List.mem_flatMap.mp hk
    exact (hok b hb).bnd k hk
theorem mem_app_congr {na : Nat} {bs : List Blk} (k : Int) : k ∈ upTo (na + 1) ++ blkReads bs ↔ k ∈ rangeKs 0 ((na : Int) + 1 - 0).toNat ++ blkReads bs := by rw [rangeKs_upTo]
local macro_rules | `(tactic| walk_at "call builtin:sorted") => `(tactic| (k_here; refine Stop.of ?_))
local macro_rules | `(tactic| walk_at "eval ListComp") => `(tactic| (k_here; refine Stop.of ?_))
local macro_rules | `(tactic| walk_at "Exists") => `(tactic| (k_here; refine Stop.of ?_))
local macro_rules | `(tactic| walk_at "compareOp Eq ref ref") => `(tactic| (k_here; refine Stop.of ?_))
theorem blkReads_snoc (bs : List Blk) (xs : List Row) (t : Term) : blkReads (bs ++ [Blk.mk xs t]) = blkReads bs ++ (rowReads xs ++ (t.reads ++ t.more)) := by simp [blkReads, Blk.reads]
theorem big_next {a b c d e i n : Nat} (h1 : a + b ≤ 100 + 30000 * i) (h2 : c ≤ 4300 * n) (hn : n ≤ 3) (h3 : d ≤ 4300) (h4 : e ≤ 65) : a + (b + (c + (d + e))) ≤ 100 + 30000 * (i + 1) := by omega
/-- between the blocks -/
structure BJ (src bl cF cN cS : Addr) (oS : Obj) (ka : Int) (ta : Tok) (rk : List Int) (i : Nat) (m : Str → Option Value) (nx : List (Addr × Obj)) (nm : Addr) (us : List Value) (n0 : Nat) (bvs : List Value) (nb : Nat) (o oF oN : Obj) (tl : List (Addr × Obj)) (bs : List Blk) (vF : Option Value) : Prop where
  args : m (Str.ofString "args") = some (.int ka ta)
  blocks : m (Str.ofString "blocks") = some (.ref bl)
  nx : nx = (nm, lstO us n0) :: (bl, lstO bvs nb) :: (src, o) :: (cF, oF) :: (cN, oN) :: (cS, oS) :: tl
  dN : oN.data = .cell (some (.ref nm))
  dF : oF.data = .cell vF
  hints : IntsAre us (rk ++ blkReads bs)
  big : (rk ++ blkReads bs).length ≤ 100 + 30000 * i
  all : IsAll (In tl) bvs (bs.map Blk.d)
  len : bs.length = i
  ok : ∀ b ∈ bs, b.ok
  so : SrcO o
  o1 : Off src tl
  o2 : Off bl tl
  o3 : Off cF tl
  o4 : Off cN tl
  n1 : @Ne Nat nm src
  n2 : @Ne Nat nm bl
  n3 : @Ne Nat nm cF
  n4 : @Ne Nat nm cN
def BodyJ (src bl cF cN cS : Addr) (oS : Obj) (ka : Int) (ta : Tok) (rk : List Int) (i : Nat) (m : Str → Option Value) (nx : List (Addr × Obj)) : Prop :=
  ∃ nm us n0 bvs nb o oF oN tl bs vF, BJ src bl cF cN cS oS ka ta rk i m nx nm us n0 bvs nb o oF oN tl bs vF

theorem off1_off {D : Addr} : ∀ {l : List (Addr × Obj)}, LCg.Off1 D l → Off D l
  | [], _ => Off.nil
  | _ :: _, h => Off.cons h.1 (off1_off h.2)
theorem body_ok {w : World} {mean : ExcName → Option Value} {mg mb : Str → Option Value} {g₀ : Heap} (X : (Mine.K w.params).In g₀) (T : Top Mine.view (looseW Mine.view []) mean mg mb g₀)
    {dp un : Nat} {fr : Option (List Env)} {gd : Option (List Code)} {s : Shared} {Q E : Value → Shared → Prop} {src : Addr} {o : Obj}
    (hr : Room dp un 9) (hk : g₀.StaysIn s.heap) (hs : s.heap.get? src = some o) (hs₀ : g₀.get? src = none) (hso : SrcO o)
    (post : ∀ o' h' tk', Heap.ExtBut src s.heap h' → h'.get? src = some o' → SrcO o' → Q (.bool true) { s with heap := h', toks := tk' }) :
    wpAny (model PySem.Challenge.rw_xm0583_01.row.prog w) (Around.mk none dp fr gd un) (call (.ref 202) [.ref src]) Q E s := by
  w_top off
  revert X
  k_fill
  intro X
  k_dflt (refine' enterC [(src, o)] X T hk ?ko ?k6 ?k7 ?k8 ?k9 ?kB ?kD ?_ ?c2 ?c3 ?c4)
  walk_at "ENTERC"
  clear X T
  intro g L h tk cells F N Y X T hold hlt
  (try k_lt hlt)
  k_cells Y
  (try simp only [List.cons_append, List.nil_append] at N)
  rename_i oc1 oc2 oS dc1 dc2 dS
  k_with_none
  have fin : ∀ news rest o' h' tk' m', Fr g L h' m' → News g L h' news → Pull src o' news rest → SrcO o' → Q (.bool true) { s with heap := h', toks := tk' } :=
    fun news rest o' h' tk' m' FF NN PP so => post o' h' tk' (Old.ext hold FF) (NN _ PP.mem).1 so
  walk_at "GO"
  refine Stop.go (For_invVF (h₀ := g) (by assumption) (by rfl) (by rfl) ?_)
  walk_at "GO"
  rename_i ka ta o1 _ _ so1 ka0 ka1 bl _ lt1 _ _ lt2 _ _ _ _ _ _ _ _ _ rgX _ D0 us0 c0 _ _ HI lt3 _ oN FO NO dN _ _ _ _ _ hR FF NN _
  refine Stop.go (rng_loop (BodyJ src bl (L + 1 + 1 + 1) (L + 1 + 1) (L + 1) _ ka ta (rangeKs 0 (ka + 1 - 0).toNat)) rfl hR (small_one (by decide) (by decide) (by decide) (by decide)) (rangeSize_nat 0 2) FF
    (News.pick NN (by k_mem) (News.pick NN (by k_mem) (News.pick NN (by k_mem) (News.pick NN (by k_mem) (News.pick NN (by k_mem) (News.pick NN (by k_mem) News.nil)))))) ⟨D0, us0, c0, [], 0, o1, _, oN, [], [], _, ⟨rfl, rfl, rfl, dN, by assumption, by simpa [blkReads] using HI, by simp [blkReads, rangeKs_length]; omega, .nil, rfl, (fun _ h => nomatch h), so1, Off.nil, Off.nil, Off.nil, Off.nil, by omega, by omega, by omega, by omega⟩⟩ ?_ ?_)
  · rintro i tt m₁ nx h tk I oI hi ⟨nm, us, n0, bvs, nb, o, oF, oN2, tl, bs, vF, J⟩ off (F : Fr g L h _) (N : News g L h _)
    obtain ⟨j1, j2, rfl, dN2, dF, hints, big, hall, hlen, hok, so, p1, p2, p3, p4, n1, n2, n3, n4⟩ := J
    rw [List.length_append] at big
    clear FF NN FO NO hR rgX HI dN so1 lt3 lt2
    have i1 : @Ne Nat nm I := off (nm, _) (by k_mem)
    have i2 : @Ne Nat bl I := off (bl, _) (by k_mem)
    have i3 : @Ne Nat src I := off (src, _) (by k_mem)
    have i4 : @Ne Nat (L + 1 + 1 + 1) I := off (L + 1 + 1 + 1, _) (by k_mem)
    have i5 : @Ne Nat (L + 1 + 1) I := off (L + 1 + 1, _) (by k_mem)
    have i7 : @Ne Nat (L + 1) I := off (L + 1, _) (by k_mem)
    have i6 : Off I tl := fun p hp => off p (.tail _ (.tail _ (.tail _ (.tail _ (.tail _ (.tail _ hp))))))
    clear off
    walk_at "GO"
    refine Stop.go (LCg.Assign_ListComp_U (F₀ := by k_asm) rfl (by with_unfolding_all rfl) (by with_unfolding_all rfl) (by decide) (by rfl) (by decide) (by rfl) (by rfl) (by rfl) ?_)
    walk_at "GO"
    rename IsRange _ _ _ _ _ _ _ _ => hR
    rename Fr _ _ _ _ => FF
    rename News _ _ _ _ => NN
    rename SrcO _ => so2
    refine Stop.go (LCg.CompSrc.range rfl FF NN hR (small_one (by decide) (by decide) (by omega) (by omega)) (rangeSize_nat _ _) (by rw [PySem.sizeLine_eq]; omega) (fun g' => comp_draw (r0 := _) Row.drawn Row.good so2 ?_ ?_ ?_))
    · intro I2 oI2 C oC D m₂ h tk o tl2 ys E' Q' F N a1 a2 a3 a4 hC so hQ
      clear FF NN hR
      walk_at "GO"
      refine Stop.go (lstmt_K (by assumption) (by assumption) X T (Room.deep hr (by decide)) (by walk_at "PULL") (by walk_at "OFF") so fun r x tl' o' h' tk' F' N' b1 b2 so' gd hi => ?_)
      exact hQ r x tl' o' h' _ F' N' b1 b2 so' gd hi
    · walk_at "OFF"
    · intro ys o tl2 xs hlenx hIx hgd off2 so ap
      intro D h tk F N off1
      clear FF NN hR
      have hxs : xs.length ≤ 3 := by omega
      have offD := off1_off off1
      simp only [List.cons_append] at N offD
      clear so2 off1
      have q1 : Off I tl2 := apart_off ap (by k_mem)
      have q2 : Off bl tl2 := apart_off ap (by k_mem)
      have q3 : Off (L + 1 + 1 + 1) tl2 := apart_off ap (by k_mem)
      have q4 : Off (L + 1 + 1) tl2 := apart_off ap (by k_mem)
      have d1 : @Ne Nat D src := Ne.symm (offD (src, _) (by k_mem))
      have d2 : @Ne Nat D I := Ne.symm (offD (I, _) (by k_mem))
      have d3 : @Ne Nat D bl := Ne.symm (offD (bl, _) (by k_mem))
      have d4 : @Ne Nat D (L + 1 + 1 + 1) := Ne.symm (offD (L + 1 + 1 + 1, _) (by k_mem))
      have d5 : @Ne Nat D (L + 1 + 1) := Ne.symm (offD (L + 1 + 1, _) (by k_mem))
      clear offD ap
      walk_at "GO"
      refine Stop.go (lends_K (by assumption) (by assumption) X T (Room.deep hr (by decide)) (by walk_at "PULL") (by walk_at "OFF") so fun r x5 xs5 pp qq tl3 o3 h3 tk3 F3 N3 b1 b2 so3 g1 g2 g3 g4 g5 hi3 => ?_)
      obtain ⟨le, lvs, ln, rfl, m3, all3⟩ := hi3.lst'
      have l3 : lvs.length = 8 := by simpa [ends] using all3.length
      have r1 : Off I tl3 := apart_off b2 (by k_mem)
      have r2 : Off bl tl3 := apart_off b2 (by k_mem)
      have r3 : Off (L + 1 + 1 + 1) tl3 := apart_off b2 (by k_mem)
      have r4 : Off (L + 1 + 1) tl3 := apart_off b2 (by k_mem)
      clear so b2
      simp only [List.cons_append, List.append_assoc] at N3
      walk_at "GO"
      refine Stop.go (one_K (by assumption) (by assumption) X T (Room.deep hr (by decide)) (by walk_at "PULL") (by walk_at "OFF") so3 (by k_mem) (by omega) (by omega) fun i2 v o4 h4 tk4 hv F4 N4 so4 => ?_)
      obtain ⟨dd, hdd, hv'⟩ := all3.get i2 v hv
      obtain ⟨te, hte, rfl⟩ : ∃ t, (ends x5 xs5 pp qq)[i2]? = some t ∧ t.drawn = dd := by simpa using hdd
      obtain ⟨tok, t50⟩ := ends_good g1 g2 g3 g4 g5 (List.mem_of_getElem? hte)
      obtain ⟨ta', e1, e2, e3, n5, rfl, m4, y1, y2, y3⟩ := hv'.tup3
      obtain ⟨c1, iv1, n6, rfl, m5, z1⟩ := y2.lst'
      obtain ⟨c2, iv2, n7, rfl, m6, z2⟩ := y3.lst'
      clear so3 hv hdd hte
      walk_at "GO"
      refine Stop.go (For_invTF (by assumption) ?_ (by intro _; rfl))
      walk_at "GO"
      rename Fr _ _ _ _ => FF
      rename News _ _ _ _ => NN
      refine Stop.go (led_loopT (fun j m nx => ∃ nm2 us2 n2 oF2 oN3 vF2, (m (Str.ofString "args") = some (.int ka ta) ∧ m (Str.ofString "blocks") = some (.ref bl) ∧ m (Str.ofString "end") = some e1 ∧ m (Str.ofString "reads") = some (.ref c1) ∧ m (Str.ofString "more") = some (.ref c2) ∧ m (Str.ofString "rows") = some (.ref D)) ∧
          nx = (nm2, lstO us2 n2) :: (L + 1 + 1 + 1, oF2) :: (L + 1 + 1, oN3) :: (D, LCg.lst ys) :: (src, o4) :: (I, oI) :: (bl, lstO bvs nb) :: (L + 1, oS) :: (tl ++ (tl2 ++ tl3)) ∧ oN3.data = .cell (some (.ref nm2)) ∧ oF2.data = .cell vF2 ∧ IntsAre us2 ((rangeKs 0 (ka + 1 - 0).toNat ++ blkReads bs) ++ rowReads (xs.take j)) ∧
          @Ne Nat nm2 src ∧ @Ne Nat nm2 bl ∧ @Ne Nat nm2 (L + 1 + 1 + 1) ∧ @Ne Nat nm2 (L + 1 + 1) ∧ @Ne Nat nm2 I)
        rfl FF (News.pick NN (by k_mem) (News.pick NN (by k_mem) (News.pick NN (by k_mem) (News.pick NN (by k_mem) (News.pick NN (by k_mem) (News.pick NN (by k_mem) (News.pick NN (by k_mem) (News.pick NN (by k_mem) (Mine.News.sub NN (fun p hp => by k_mem)))))))))) (by k_mem) (fun i m nx ⟨nm2, us2, n2, oF2, oN3, vF2, _, e, _⟩ => by rw [e]; exact .tail _ (.tail _ (.tail _ (.head _))))
        ⟨nm, us, n0, oF, oN2, vF, ⟨by exact j1, by exact j2, rfl, rfl, rfl, rfl⟩, rfl, dN2, dF, by simpa [rowReads] using hints, n1, n2, n3, n4, i1⟩ ?_ ?_)
      · rintro j v m₂ nx2 ⟨hp, gs, dr, tk, os⟩ I2 oI2 hv ⟨nm2, us2, n2, oF2, oN3, vF2, ⟨w1, w2, w3, w4, w5, w6⟩, rfl, dN3, dF2, hi2, u1, u2, u3, u4, u5⟩ off (F : Fr g L hp _) (N : News g L hp _)
        obtain ⟨dd, hd, hv'⟩ := hIx.get j v hv
        obtain ⟨x, hx, rfl⟩ : ∃ x, xs[j]? = some x ∧ x.drawn = dd := by simpa using hd
        obtain ⟨a, v1, v2, n8, rfl, s1, s2, s3⟩ := hv'.tup2
        obtain ⟨c, iv, n9, rfl, s4, s5⟩ := s3.lst'
        have s6 := s5.ints
        rw [rowReads_take xs j x hx]
        have z1 := (hgd x (List.mem_of_getElem? hx)).le
        have z2 := rowReads_le (xs.take j) (fun r hr => hgd r (List.mem_of_mem_take hr))
        have z3 : (xs.take j).length ≤ 3 := Nat.le_trans (List.length_take_le' _ _) hxs
        have z4 := size_row big hi z2 z3 z1
        have k1 : @Ne Nat nm2 I2 := off (nm2, _) (by k_mem)
        have k2 : @Ne Nat (L + 1 + 1 + 1) I2 := off (L + 1 + 1 + 1, _) (by k_mem)
        have k3 : @Ne Nat (L + 1 + 1) I2 := off (L + 1 + 1, _) (by k_mem)
        have k4 : Off I2 ((D, LCg.lst ys) :: (src, o4) :: (I, oI) :: (bl, lstO bvs nb) :: (L + 1, oS) :: (tl ++ (tl2 ++ tl3))) := fun p hp => off p (.tail _ (.tail _ (.tail _ hp)))
        clear off FF NN
        walk_at "GO"
        rename Fr _ _ _ _ => FF
        rename News _ _ _ _ => NN
        refine TurnT.intro ((_, lstO _ _) :: (L + 1 + 1 + 1, _) :: (L + 1 + 1, _) :: (D, LCg.lst ys) :: (src, o4) :: (I, oI) :: (bl, lstO bvs nb) :: (L + 1, oS) :: (tl ++ (tl2 ++ tl3))) FF (News.pick NN (by k_mem) (News.pick NN (by k_mem) (News.pick NN (by k_mem) (News.pick NN (by k_mem) (News.pick NN (by k_mem) (News.pick NN (by k_mem) (News.pick NN (by k_mem) (News.pick NN (by k_mem) (News.pick NN (by k_mem) (Mine.News.sub NN (fun p hp => by k_mem))))))))))) (Off.cons (by k_ne) (Off.cons k2 (Off.cons k3 k4)))
          ⟨_, _, _, _, _, _, ⟨by exact w1, by exact w2, by exact w3, by exact w4, by exact w5, by exact w6⟩, rfl, by assumption, by assumption, by rw [← List.append_assoc]; assumption, by k_ne, by k_ne, by k_ne, by k_ne, by k_ne⟩
      · rintro m₂ nx2 h tk ⟨nm2, us2, n2, oF2, oN3, vF2, ⟨w1, w2, w3, w4, w5, w6⟩, rfl, dN3, dF2, hi2, u1, u2, u3, u4, u5⟩ (F : Fr g L h _) (N : News g L h _)
        clear FF NN
        rw [show ys.length = xs.length by simpa using hIx.length, List.take_length] at hi2
        have x1 := te.reads_le tok
        have x2 := te.more_le tok
        have x3 := rowReads_le xs hgd
        have x4 := size_row big hi x3 hxs x1
        have x6 := size_end big hi x3 hxs x1 x2
        have t1 := z1.ints
        have t2 := z2.ints
        have e9 : ys.length ≤ 3 := by rw [show ys.length = xs.length by simpa using hIx.length]; exact hxs
        walk_at "GO"
        refine Stop.go (LCp.ListComp_P (F₀ := by k_asm) (by with_unfolding_all rfl) (by decide) (by rfl) (by decide) (by rfl) (by rfl) (by decide) ?_)
        walk_at "GO"
        rename Fr _ _ _ _ => FF
        rename News _ _ _ _ => NN
        rename_i D4 ws4 _ hI4 lt4 _ oN4 dN4
        obtain ⟨fs, f1, f2, f3⟩ := firsts_of (φ := In tl2) Row.d (fun x => Mine.D.lst (x.reads.map Mine.D.int)) hIx
        have x7 : bvs.length ≤ 100000 := by rw [show bvs.length = bs.length by simpa using hall.length]; omega
        refine Stop.go (LCp.SrcLP.ledger (news := _) rfl FF NN (by k_mem) (by rw [List.size_toArray, PySem.sizeLine_eq]; omega) (fun g' => comp_first f1 (.inr ⟨_, (by k_mem), rfl, _, rfl⟩) (fun i v hv => ?_) rfl (fun _ => rfl) (by decide) ?_))
        · obtain ⟨t, n, v₁, v₂, e, hm, hf⟩ := f3 i v hv
          exact ⟨t, n, v₁, v₂, e, (by k_mem), hf⟩
        · intro D2 h tk F N off2
          clear FF NN
          have offD := off1_off off2
          have v1 : @Ne Nat D2 src := Ne.symm (offD (src, _) (by k_mem))
          have v2 : @Ne Nat D2 I := Ne.symm (offD (I, _) (by k_mem))
          have v3 : @Ne Nat D2 bl := Ne.symm (offD (bl, _) (by k_mem))
          have v4 : @Ne Nat D2 (L + 1 + 1 + 1) := Ne.symm (offD (L + 1 + 1 + 1, _) (by k_mem))
          have v5 : @Ne Nat D2 (L + 1 + 1) := Ne.symm (offD (L + 1 + 1, _) (by k_mem))
          clear offD off2
          walk_at "GO"
          rename Fr _ _ _ _ => FF
          rename News _ _ _ _ => NN
          rename_i l5 _ lt5 _
          refine TurnEnd.intro ((D4, lstO ws4 0) :: (bl, lstO (bvs ++ [Value.ref l5]) (nb + 1)) :: (src, o4) :: (L + 1 + 1 + 1, oF2) :: (L + 1 + 1, oN4) :: (L + 1, oS) :: (l5, lstO [Value.ref D2, e1] 0) :: (D2, LCg.lst fs) :: (tl ++ (tl2 ++ tl3))) FF
            (News.pick NN (by k_mem) (News.pick NN (by k_mem) (News.pick NN (by k_mem) (News.pick NN (by k_mem) (News.pick NN (by k_mem) (News.pick NN (by k_mem) (News.pick NN (by k_mem) (News.pick NN (by k_mem) (News.pick NN (by k_mem) (Mine.News.sub NN (fun p hp => by k_mem)))))))))))
            (by walk_at "OFF")
            ⟨D4, ws4, 0, bvs ++ [Value.ref l5], nb + 1, o4, oF2, oN4, (l5, lstO [Value.ref D2, e1] 0) :: (D2, LCg.lst fs) :: (tl ++ (tl2 ++ tl3)), bs ++ [Blk.mk xs te], vF2, ⟨by exact w1, by exact w2, rfl, dN4, dF2, ?_, ?_, ?_, ?_, ?_, so4, by walk_at "OFF", by walk_at "OFF", by walk_at "OFF", by walk_at "OFF", by k_ne, by k_ne, by k_ne, by k_ne⟩⟩
          · rw [blkReads_snoc, ← List.append_assoc, ← List.append_assoc, ← List.append_assoc]
            exact hI4
          · rw [blkReads_snoc, List.length_append, List.length_append, List.length_append, List.length_append]
            exact big_next big x3 hxs x1 x2
          · rw [List.map_append]
            exact (hall.mono fun a o e => by k_mem).append (.cons (.lst (by k_mem) (.cons (.lst (by k_mem) (f2.mono fun a o e => by k_mem)) (.cons (y1.mono fun a o e => by k_mem) .nil))) .nil)
          · rw [List.length_append, hlen]; rfl
          · intro b hb
            rcases List.mem_append.mp hb with hb | hb
            · exact hok b hb
            · rw [List.mem_singleton.mp hb]; exact mk_ok hgd hxs tok t50
  · rintro m₁ nx h tk ⟨nm, us, n0, bvs, nb, o, oF, oN2, tl, bs, vF, J⟩ (F : Fr g L h _) (N : News g L h _)
    obtain ⟨j1, j2, rfl, dN2, dF, hints, big, hall, hlen, hok, so, p1, p2, p3, p4, n1, n2, n3, n4⟩ := J
    clear FF NN FO NO hR rgX HI dN so1 lt3 lt2
    walk_at "GO"
    rename Fr _ _ _ _ => FF
    rename News _ _ _ _ => NN
    obtain ⟨na, rfl⟩ : ∃ na : Nat, ka = (na : Int) := ⟨ka.toNat, (Int.toNat_of_nonneg ka0).symm⟩
    refine body_K FF NN X T (Room.make hr) rfl (by k_mem) fun x dx es k h2 tk2 F2 N2 l1 l2 e1 e2 => ?_
    k_lt l1
    clear FF NN
    walk_at "GO"
    refine Stop.go (named_K F2 N2 X T (Room.deep hr (by decide)) (by k_mem) (by k_mem) e1 e2 (by omega) (by k_mem) (hall.mono fun a o e => by k_mem) hok (by omega) fun DD oD kvs h3 tk3 F3 N3 off3 lo hdo ht => ?_)
    have f1 : @Ne Nat DD src := Ne.symm (off3 (src, _) (by k_mem))
    have f2 : @Ne Nat DD (L + 1 + 1 + 1) := Ne.symm (off3 (L + 1 + 1 + 1, _) (by k_mem))
    have f3 : @Ne Nat DD (L + 1 + 1) := Ne.symm (off3 (L + 1 + 1, _) (by k_mem))
    clear off3
    walk_at "GO"
    rename Fr _ _ _ _ => FF
    rename News _ _ _ _ => NN
    rename_i oF3 dF3
    refine Stop.go (filter_Assign (c := Str.ofString "named") FF NN (by with_unfolding_all rfl) rfl (by with_unfolding_all rfl) (by decide) (by rfl) (by decide) (by rfl) (by decide) (by decide) (fun _ => rfl) (fun _ => rfl) (fun _ => rfl) (by rfl) (by rfl) (by rfl) (by k_mem) dN2 (by k_mem) hints ?_ (fun _ => rfl) (by rfl))
    walk_at "GO"
    rename IsRange _ _ _ _ _ _ _ _ => hR
    rename Fr _ _ _ _ => FF
    rename News _ _ _ _ => NN
    refine Stop.go ⟨_, _, _, _, _, 50, rfl, hR, small_one (by decide) (by decide) (by decide) (by decide), rangeSize_nat 0 50, Nat.le_refl _, FF, NN, fun UU ws q h4 tk4 F4 N4 off4 hi4 => ?_⟩
    clear FF NN hR off4
    walk_at "GO"
    rename Fr _ _ _ _ => FF
    rename News _ _ _ _ => NN
    refine Stop.go (sorted_told rfl FF NN (by k_mem) lo hdo ht fun SD vs5 ns5 c5 h5 tk5 F5 N5 l5 i5 p5 n5 k5 => ?_)
    clear FF NN l5
    walk_at "GO"
    have e5 := sorted_is p5 n5 k5 (fun k hk => ht50 (by omega) hok hk) (fun k => (mem_app_congr k).symm)
    refine Stop.go (eq_intsK (News.isList N5 (by k_mem)) i5 (News.isList N5 (by k_mem)) hi4 (Room.units64 (l := 9) hr) ?_)
    rw [decide_eq_true e5]
    clear e5
    walk_at "GO"
    refine Stop.go (none_left (c := Str.ofString "found") F5 N5 rfl (by with_unfolding_all rfl) (by decide) (by rfl) (by decide) (by rfl) (by decide) (by decide) (fun _ => rfl) (fun _ => rfl) (fun _ => rfl) (by rfl) (by rfl) (by rfl) (by rfl) (by k_mem) dF3 (by k_mem) lo hdo ht (fun EE q6 h6 tk6 F6 N6 off6 => ?_) (fun _ => rfl) (fun _ _ _ => by with_unfolding_all rfl) (fun _ _ => by with_unfolding_all rfl))
    clear F5 N5 off6
    walk_at "GO"
    rename Fr _ _ _ _ => FF
    rename News _ _ _ _ => NN
    refine Stop.go (eq_intsK (vs := []) (us := []) (News.isList NN (.tail _ (.head _))) .nil (News.isList NN (.head _)) .nil (Room.units64 (l := 9) hr) ?_)
    rw [decide_eq_true rfl]
    walk_at "GO"
    exact fin _ _ _ _ _ _ FF NN (by walk_at "PULL") so
end

theorem pool_ok {w : World} {mean : ExcName → Option Value} {mg mb : Str → Option Value} {g₀ : Heap} (X : (Mine.K w.params).In g₀) (T : Top Mine.view (looseW Mine.view []) mean mg mb g₀)
    {dp un : Nat} {fr : Option (List Env)} {gd : Option (List Code)} {s : Shared} {Q E : Value → Shared → Prop} {l : Addr} {vs : List Value} {ns : List Int}
    (hr : Room dp un 1) (hk : g₀.StaysIn s.heap) (hl : s.heap.IsList l vs.toArray) (hi : IntsAre vs ns) (hz : vs.length ≤ 63)
    (post : ∀ a o h' tk', s.heap.StaysIn h' → s.heap.get? a = none → h'.get? a = some o → SrcO o → Q (.ref a) { s with heap := h', toks := tk' }) :
    wpAny (model PySem.Challenge.rw_xm0583_01.row.prog w) (Around.mk none dp fr gd un) (call (.ref 136) [.ref l]) Q E s := by
  w_top off
  revert X
  k_fill
  intro X
  k_dflt (refine' enter [] X T hk ?ko ?k6 ?k7 ?k8 ?k9 ?kB ?_ ?c2 ?c3 ?c4 ?c5)
  walk_at "ENTER"
  clear X T
  intro g L h tk F N X T hold hL
  have hl' : g.IsList l vs.toArray := by
    obtain ⟨o, ho, r⟩ := hl
    exact ⟨o, hold l o (fun q hq => nomatch hq) ho, r⟩
  have hzz : ns.length ≤ 63 := by rw [← hi.length]; exact hz
  clear hl
  k_with_none
  walk_at "GO"
  all_goals (exact post _ _ _ _ (Old.stays hold (by assumption)) (Old.fresh hold (by assumption) (.head _)) (News.get (by assumption) (.head _)) ⟨_, _, _, _, _, rfl, by omega, fmod_lo _ (by decide), fmod_hi _ (by decide)⟩)

section
local macro_rules | `(tactic| walk_at "compareOp NotEq ref ref") => `(tactic| (k_here; refine Stop.of ?_))

local macro_rules | `(tactic| walk_at "subscriptTail") => `(tactic| (k_here; (with_reducible show wpAny _ _ (subscriptTail _ _ (Value.ref _) (Value.int _ _)) _ _ _); k_dflt (refine' led_item ?N ?m ?a ?b ?c ?d ?_; (case N => k_asm); (case m => k_mem); (case a => decide); (case b => decide); (case c => rfl); (case d => rfl); k_whole)))
theorem units_law (env : Env) : (callerA.deeper env).units + 64 < cLine := by
  have e : cLine = 9900 := rfl
  show 4 + 3 + 64 < _
  omega
theorem lawPlace : Place.set ⟨3, [.field 0]⟩ = [3] := rfl
theorem lawPlace0 : Place.set ⟨3, []⟩ = [] := rfl
theorem pool_K {w : World} {mean : ExcName → Option Value} {mg mb : Str → Option Value} {g : Heap} {dp un : Nat} {fr : Option (List Env)} {gd : Option (List Code)} {s : Shared} {Q E : Value → Shared → Prop} {L l : Addr} {m : Str → Option Value} {news : List (Addr × Obj)} {vs : List Value} {ns : List Int}
    (F : Fr g L s.heap m) (N : News g L s.heap news) (X : (Mine.K w.params).In g) (T : Top Mine.view (looseW Mine.view []) mean mg mb g)
    (hr : Room dp un 1) (hl : g.IsList l vs.toArray) (hi : IntsAre vs ns) (hz : ns.length ≤ 63)
    (post : ∀ a o h' tk', Fr g L h' m → News g L h' ((a, o) :: news) → (∀ p ∈ news, p.1 ≠ a) → SrcO o → Q (.ref a) { s with heap := h', toks := tk' }) :
    wpAny (model PySem.Challenge.rw_xm0583_01.row.prog w) (Around.mk none dp fr gd un) (call (.ref 136) [.ref l]) Q E s := by
  refine pool_ok X T hr F.keep (stays_list F.keep hl) hi (by rw [hi.length]; exact hz) fun a o h' tk' hs hf ha ho => ?_
  obtain ⟨F', N', off⟩ := News.keep1 F N hs hf ha
  exact post a o h' tk' F' N' off ho

theorem law_holds : PySem.Challenge.rw_xm0583_01.Holds := by
  w_on
  refine holds_law said_ok fun said => ?_
  refine holds_open (q := Mine.view) (loose := []) (Xt := fun s => xlAt Mine.view [] s && recOk (RowW.records (OpenRow.toRowW PySem.Challenge.rw_xm0583_01.row)) s) (XP := XL Mine.view []) (Yf := Hook.obs (kHook Mine.K Mine.Kas (fun _ => by kernel_rfl))) (Ya := Hook.val (kHook Mine.K Mine.Kas (fun _ => by kernel_rfl))) (YP := Hook.says (kHook Mine.K Mine.Kas (fun _ => by kernel_rfl))) (N := 2262) ?hl (Hook.of (kHook Mine.K Mine.Kas (fun _ => by kernel_rfl))) (Hook.keeps (kHook Mine.K Mine.Kas (fun _ => by kernel_rfl))) (fun s e => xl_of s (Bool.and_eq_true_iff.mp e).1) XL.keeps (by rfl) (by rfl) (by rfl) (fun s e => recFacts_of (Bool.and_eq_true_iff.mp e).2) (by first | rfl | fail "no head") said (by decide +kernel) ⟨rfl, rfl, rfl, rfl, rfl, by decide +kernel⟩ ?hw ?hc
  case hw => w_witness2
  case hl => with_reducible exact top_ok
  case hc =>
  clear said
  k_go0
  (all_goals try k_fold)
  rename Top _ _ _ _ _ _ => T
  rename Frag.In _ _ => X
  rename Fr _ _ _ _ => F
  rename News _ _ _ _ => N
  rename IntsAre _ _ => HI
  rename Heap.IsList _ _ _ => HL
  have hr : Room 301 4 10 := ⟨by decide, by decide⟩
  k_with_none
  walk_at "GO"
  rename Fr _ _ _ _ => FF
  rename News _ _ _ _ => NN
  refine Stop.go (place_K (P := ⟨3, [.field 0]⟩) FF NN X T (Room.deep hr (by decide)) (Is.led NN (.tup (.head _) (.cons (.int _ _) (.cons (.tup (.tail _ (.head _)) (.cons (.tup (.tail _ (.tail _ (.head _))) (.cons (.str _ _) (.cons (.int _ _) .nil))) .nil)) .nil)))) (Nat.le_of_ble_eq_true rfl) fun a1 vs1 n1 h1 tk1 F1 N1 off1 i1 => ?_)
  clear FF NN
  rw [lawPlace] at i1
  walk_at "GO"
  rename Fr _ _ _ _ => FF
  rename News _ _ _ _ => NN
  refine Stop.go (ne_intsK (News.isList NN (.tail _ (.head _))) i1 (News.isList NN (.head _)) (.cons 3 _ .nil) (units_law _) ?_)
  rw [decide_eq_true rfl]
  walk_at "GO"
  rename Fr _ _ _ _ => FF
  rename News _ _ _ _ => NN
  refine Stop.go (place_K (P := ⟨3, []⟩) FF NN X T (Room.deep hr (by decide)) (Is.led NN (.tup (.head _) (.cons (.int _ _) (.cons (.tup (.tail _ (.head _)) .nil) .nil)))) (Nat.le_of_ble_eq_true rfl) fun a1 vs1 n1 h1 tk1 F1 N1 off1 i1 => ?_)
  clear FF NN
  rw [lawPlace0] at i1
  walk_at "GO"
  rename Fr _ _ _ _ => FF
  rename News _ _ _ _ => NN
  refine Stop.go (ne_intsK (us := []) (News.isList NN (.tail _ (.head _))) i1 (News.isList NN (.head _)) .nil (units_law _) ?_)
  rw [decide_eq_true rfl]
  walk_at "GO"
  rename Fr _ _ _ _ => FF
  rename News _ _ _ _ => NN
  refine Stop.go (pool_K FF NN X T (Room.deep hr (by decide)) HL HI (by omega) fun src o h tk F N off so => ?_)
  clear FF NN off
  walk_at "GO"
  rename Fr _ _ _ _ => FF
  refine Stop.go (For_invVF FF (by rfl) (by rfl) ?_)
  walk_at "GO"
  rename IsRange _ _ _ _ _ _ _ _ => hR
  rename Fr _ _ _ _ => FF
  rename News _ _ _ _ => NN
  refine Stop.go (rng_loop (fun i m nx => m (Str.ofString "source") = some (.ref src) ∧ ∃ o, nx = [(src, o)] ∧ SrcO o) rfl hR (small_one (by decide) (by decide) (by decide) (by decide)) (rangeSize_nat 0 4) FF (News.pick NN (by k_mem) News.nil) ⟨rfl, o, rfl, so⟩ ?_ ?_)
  · clear FF NN hR so
    rintro i t m₁ nx h tk I oI hi ⟨e0, o, rfl, so⟩ off (F : Fr _ _ h _) (N : News _ _ h _)
    have i1 : @Ne Nat src I := off _ (.head _)
    clear off
    walk_at "GO"
    refine Stop.go (lplace_K (by assumption) (by assumption) X T (Room.deep hr (by decide)) (by walk_at "PULL") (by walk_at "OFF") so (by decide) (by decide) fun r P tl1 o1 h1 tk1 F1 N1 f1 e1 so1 g1 d1 => ?_)
    obtain ⟨pa, pv1, pv2, pv3, pn, rfl, pm, pi1, pi2, pi3⟩ := d1.tup3
    obtain ⟨pt, rfl⟩ := pi2.int'
    clear so
    walk_at "GO"
    refine Stop.go (loperands_K (by assumption) (by assumption) X T (Room.deep hr (by decide)) (by walk_at "PULL") (by walk_at "OFF") so1 (by decide) (by decide) fun r xs tl2 o2 h2 tk2 F2 N2 f2 e2 so2 g2 g3 d2 => ?_)
    obtain ⟨ya, yv, yr, yn, rfl, ym, yi, yl⟩ := d2.tup2
    obtain ⟨yb, yov, yn4, rfl, ym1, yi2⟩ := yi.tup'
    obtain ⟨yc, yiv, yn5, rfl, ym2, yl2⟩ := yl.lst'
    have yint := yl2.ints
    clear so1
    walk_at "GO"
    refine Stop.go (lrvalue_K (by assumption) (by assumption) X T (Room.deep hr (by decide)) (by walk_at "PULL") (by walk_at "OFF") so2 fun r x tl3 o3 h3 tk3 F3 N3 f3 e3 so3 g4 d3 => ?_)
    obtain ⟨za, zv, zr, zn, rfl, zm, zi, zl⟩ := d3.tup2
    obtain ⟨zc, ziv, zn2, rfl, zm2, zl2⟩ := zl.lst'
    have zint := zl2.ints
    clear so2
    walk_at "GO"
    rename Fr _ _ _ _ => FF
    rename News _ _ _ _ => NN
    refine Stop.go (place_K (P := P) FF NN X T (Room.deep hr (by decide)) (Is.led NN (pi1.mono fun a o q => by k_mem)) (Nat.le_trans g1.len (by decide)) fun a1 vs1 n1 h1 tk1 F1 N1 off1 ip => ?_)
    clear FF NN off1
    walk_at "GO"
    rename Fr _ _ _ _ => FF
    rename News _ _ _ _ => NN
    refine Stop.go (lset_K (P := P) FF NN X T (Room.deep hr (by decide)) (d1.mono fun a o q => (NN (a, o) (by k_mem)).1) (Nat.le_trans g1.len (by decide)) fun a2 vs2 n2 h2 tk2 F2 N2 off2 iq => ?_)
    clear FF NN off2
    walk_at "GO"
    rename Fr _ _ _ _ => FF
    rename News _ _ _ _ => NN
    refine Stop.go (ne_intsK (News.isList NN (.tail _ (.head _))) ip (News.isList NN (.head _)) iq (units_law _) ?_)
    rw [decide_eq_true rfl]
    walk_at "GO"
    rename Fr _ _ _ _ => FF
    rename News _ _ _ _ => NN
    refine Stop.go (operand_K xs FF NN X T (Room.deep hr (by decide)) (.inl (NN (yb, _) (by k_mem)).1) (yi2.mono fun a o q => (NN (a, o) (by k_mem)).1) (fun y hy => (g2 y hy).ok) (Nat.le_trans g3 (by decide)) fun a3 vs3 n3 h3 tk3 F3 N3 off3 io => ?_)
    clear FF NN off3
    walk_at "GO"
    rename Fr _ _ _ _ => FF
    rename News _ _ _ _ => NN
    refine Stop.go (ne_intsK (News.isList NN (.head _)) io (News.isList (a := yc) (items := yiv.toArray) NN (by k_mem)) yint (units_law _) ?_)
    rw [decide_eq_true rfl]
    walk_at "GO"
    rename Fr _ _ _ _ => FF
    rename News _ _ _ _ => NN
    refine Stop.go (rvalue_K (R := x) FF NN X T (Room.deep hr (by decide)) (Is.led NN (zi.mono fun a o q => by k_mem)) g4.ok fun a4 vs4 n4 h4 tk4 F4 N4 off4 ir => ?_)
    clear FF NN off4
    walk_at "GO"
    rename Fr _ _ _ _ => FF
    rename News _ _ _ _ => NN
    refine Stop.go (ne_intsK (News.isList NN (.head _)) ir (News.isList (a := zc) (items := ziv.toArray) NN (by k_mem)) zint (units_law _) ?_)
    rw [decide_eq_true rfl]
    walk_at "GO"
    rename Fr _ _ _ _ => FF
    rename News _ _ _ _ => NN
    exact TurnEnd.intro [(src, o3)] FF (News.pick NN (by k_mem) (News.pick NN (by k_mem) News.nil)) (Off.cons i1 Off.nil) ⟨by exact e0, o3, rfl, so3⟩
  · clear FF NN hR so
    rintro m₁ nx h tk ⟨e0, o, rfl, so⟩ (F : Fr _ _ h _) (N : News _ _ h _)
    walk_at "GO"
    refine Stop.go (For_invTF F ?_ (by intro _; rfl))
    walk_at "GO"
    refine Stop.go (lends_K (by assumption) (by assumption) X T (Room.deep hr (by decide)) (by walk_at "PULL") (by walk_at "OFF") so fun r x5 xs5 pp qq tl3 o3 h3 tk3 F3 N3 b1 b2 so3 g1 g2 g3 g4 g5 hi3 => ?_)
    obtain ⟨le, lvs, ln, rfl, m3, all3⟩ := hi3.lst'
    clear so
    walk_at "GO"
    rename Fr _ _ _ _ => FF
    rename News _ _ _ _ => NN
    refine Stop.go (led_loopT (fun j m nx => m (Str.ofString "source") = some (.ref src) ∧ nx = (src, o3) :: tl3) rfl FF (News.pick NN (by k_mem) (Mine.News.sub NN (fun p hp => by k_mem))) (.tail _ m3) (fun j m nx ⟨_, e⟩ => by rw [e]; exact .tail _ m3) ⟨by exact e0, rfl⟩ ?_ ?_)
    · clear FF NN
      rintro j v m₂ nx2 ⟨hp, gs, dr, tk, os⟩ I2 oI2 hv ⟨e0, rfl⟩ off (F : Fr _ _ hp _) (N : News _ _ hp _)
      obtain ⟨dd, hdd, hv'⟩ := all3.get j v hv
      obtain ⟨te, hte, rfl⟩ : ∃ t, (ends x5 xs5 pp qq)[j]? = some t ∧ t.drawn = dd := by simpa using hdd
      obtain ⟨tok, t50⟩ := ends_good g1 g2 g3 g4 g5 (List.mem_of_getElem? hte)
      obtain ⟨ta', e1, e2, e3, n5, rfl, m4, y1, y2, y3⟩ := hv'.tup3
      obtain ⟨c1, iv1, n6, rfl, m5, z1⟩ := y2.lst'
      obtain ⟨c2, iv2, n7, rfl, m6, z2⟩ := y3.lst'
      have t1 := z1.ints
      have i1 : @Ne Nat src I2 := off _ (.head _)
      have i2 : Off I2 tl3 := fun p hp => off p (.tail _ hp)
      clear off
      walk_at "GO"
      rename Fr _ _ _ _ => FF
      rename News _ _ _ _ => NN
      refine Stop.go (term_K (R := te) FF NN X T (Room.deep hr (by decide)) (Is.led NN (y1.mono fun a o q => by k_mem)) tok fun a4 vs4 n4 h4 tk4 F4 N4 off4 ir => ?_)
      clear FF NN off4
      walk_at "GO"
      rename Fr _ _ _ _ => FF
      rename News _ _ _ _ => NN
      refine Stop.go (ne_intsK (News.isList NN (.head _)) ir (News.isList (a := c1) (items := iv1.toArray) NN (by k_mem)) t1 (units_law _) ?_)
      rw [decide_eq_true rfl]
      walk_at "GO"
      rename Fr _ _ _ _ => FF
      rename News _ _ _ _ => NN
      exact TurnT.intro ((src, o3) :: tl3) FF (News.pick NN (by k_mem) (News.pick NN (by k_mem) (Mine.News.sub NN (fun p hp => by k_mem)))) (Off.cons i1 i2) ⟨by exact e0, rfl⟩
    · clear FF NN
      rintro m₂ nx2 h tk ⟨e0, rfl⟩ (F : Fr _ _ h _) (N : News _ _ h _)
      walk_at "GO"
      refine Stop.go (body_ok X T (Room.deep hr (by decide)) F.keep (N (src, _) (.head _)).1 (N (src, _) (.head _)).2.2 so3 fun o' h' tk' hx ho so' => ?_)
      obtain ⟨F', N', _, _⟩ := srcStep [] F N .head b1 hx ho (fun _ h => nomatch h)
      clear F N
      walk_at "GO"
end

end Mine

set_option maxRecDepth 100000 in
set_option maxHeartbeats 8000000 in
theorem PySem.Challenge.cw_xm0583_01_holds : PySem.Challenge.rw_xm0583_01.Holds :=
  Mine.law_holds
