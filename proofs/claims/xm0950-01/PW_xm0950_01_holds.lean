import PyProof.Rows.All
import Wide.All
import OpenK.AllK
import Wide.FinOn
import PySem.Challenge.RW_xm0950_01
open PySem PySem.W PyProof.Rows PySem.Spec PySem.Calls
set_option Elab.async false
set_option maxRecDepth 100000
namespace Mine
noncomputable abbrev hB : List Stmt := PySem.Challenge.pw_xm0950_01.main.body
noncomputable abbrev clsB : List Stmt → List Stmt
  | .ClassDef _ _ _ b _ _ _ _ _ _ _ :: _ => b
  | _ => []
/-- an object made of the def that opens l -/
noncomputable abbrev fnO {l : List Stmt} {n : Str} {a : Arguments} {b : List Stmt} {ds : List PySem.Expr} {rt : Option PySem.Expr} {tp : List TypeParam} {c : Scope} {tc : Option Scope} {bi : Str} {p : Pos} {r : List Stmt}
    (_ : l = .FunctionDef n a b ds rt tp c tc bi p :: r) (mk : Arguments → List Stmt → Scope → Obj) : Obj := mk a b c
/-- the objects behind the top that the walk reads -/
noncomputable def hK : Params → Frag := fun P =>
  (nat_lit 2, PySem.Obj.mk PySem.Value.none Option.none (PySem.Data.dict #[PySem.DictEntry.mk (PySem.PyData.keyHash P (PySem.Str.ofString "type.__subclasses__.Exception.0")) (PySem.Value.str (PySem.Str.ofString "type.__subclasses__.Exception.0") 219) (PySem.Value.int 34 0), PySem.DictEntry.mk (PySem.PyData.keyHash P (PySem.Str.ofString "type.__subclasses__.Exception.n")) (PySem.Value.str (PySem.Str.ofString "type.__subclasses__.Exception.n") 220) (PySem.Value.int 1 0)] 2) #[]) ::
  (nat_lit 3, PySem.Obj.mk (PySem.Value.type "dict") Option.none (PySem.Data.dict #[PySem.DictEntry.mk (PySem.PyData.keyHash P (PySem.Str.ofString "__name__")) (PySem.Value.str (PySem.Str.ofString "__name__") 165) (PySem.Value.str (PySem.Str.ofString "law_xm0950_01") 607), PySem.DictEntry.mk (PySem.PyData.keyHash P (PySem.Str.ofString "__doc__")) (PySem.Value.str (PySem.Str.ofString "__doc__") 166) PySem.Value.none, PySem.DictEntry.mk (PySem.PyData.keyHash P (PySem.Str.ofString "__package__")) (PySem.Value.str (PySem.Str.ofString "__package__") 167) PySem.Value.none, PySem.DictEntry.mk (PySem.PyData.keyHash P (PySem.Str.ofString "__loader__")) (PySem.Value.str (PySem.Str.ofString "__loader__") 168) (PySem.Value.builtin "__main__.__loader__#opaque"), PySem.DictEntry.mk (PySem.PyData.keyHash P (PySem.Str.ofString "__spec__")) (PySem.Value.str (PySem.Str.ofString "__spec__") 169) PySem.Value.none, PySem.DictEntry.mk (PySem.PyData.keyHash P (PySem.Str.ofString "__annotations__")) (PySem.Value.str (PySem.Str.ofString "__annotations__") 170) (PySem.Value.ref 6), PySem.DictEntry.mk (PySem.PyData.keyHash P (PySem.Str.ofString "__builtins__")) (PySem.Value.str (PySem.Str.ofString "__builtins__") 171) (PySem.Value.ref 4), PySem.DictEntry.mk (PySem.PyData.keyHash P (PySem.Str.ofString "__file__")) (PySem.Value.str (PySem.Str.ofString "__file__") 173) (PySem.Value.str (PySem.Str.ofString "/claim/cut.py") 172), PySem.DictEntry.mk (PySem.PyData.keyHash P (PySem.Str.ofString "__cached__")) (PySem.Value.str (PySem.Str.ofString "__cached__") 174) PySem.Value.none, PySem.DictEntry.mk (PySem.PyData.keyHash P (PySem.Str.ofString "SnobolError")) (PySem.Value.str (PySem.Str.ofString "SnobolError") 222) (PySem.Value.ref 34), PySem.DictEntry.mk (PySem.PyData.keyHash P (PySem.Str.ofString "Failure")) (PySem.Value.str (PySem.Str.ofString "Failure") 242) (PySem.Value.ref 47), PySem.DictEntry.mk (PySem.PyData.keyHash P (PySem.Str.ofString "Pattern")) (PySem.Value.str (PySem.Str.ofString "Pattern") 271) (PySem.Value.ref 68), PySem.DictEntry.mk (PySem.PyData.keyHash P (PySem.Str.ofString "Delayed")) (PySem.Value.str (PySem.Str.ofString "Delayed") 300) (PySem.Value.ref 89), PySem.DictEntry.mk (PySem.PyData.keyHash P (PySem.Str.ofString "is_null")) (PySem.Value.str (PySem.Str.ofString "is_null") 307) (PySem.Value.ref 100), PySem.DictEntry.mk (PySem.PyData.keyHash P (PySem.Str.ofString "is_plain")) (PySem.Value.str (PySem.Str.ofString "is_plain") 314) (PySem.Value.ref 107), PySem.DictEntry.mk (PySem.PyData.keyHash P (PySem.Str.ofString "fits")) (PySem.Value.str (PySem.Str.ofString "fits") 322) (PySem.Value.ref 114), PySem.DictEntry.mk (PySem.PyData.keyHash P (PySem.Str.ofString "whole_of_text")) (PySem.Value.str (PySem.Str.ofString "whole_of_text") 333) (PySem.Value.ref 121), PySem.DictEntry.mk (PySem.PyData.keyHash P (PySem.Str.ofString "text_of_whole")) (PySem.Value.str (PySem.Str.ofString "text_of_whole") 342) (PySem.Value.ref 128), PySem.DictEntry.mk (PySem.PyData.keyHash P (PySem.Str.ofString "to_whole")) (PySem.Value.str (PySem.Str.ofString "to_whole") 350) (PySem.Value.ref 135), PySem.DictEntry.mk (PySem.PyData.keyHash P (PySem.Str.ofString "to_text")) (PySem.Value.str (PySem.Str.ofString "to_text") 357) (PySem.Value.ref 142), PySem.DictEntry.mk (PySem.PyData.keyHash P (PySem.Str.ofString "need_whole")) (PySem.Value.str (PySem.Str.ofString "need_whole") 366) (PySem.Value.ref 149), PySem.DictEntry.mk (PySem.PyData.keyHash P (PySem.Str.ofString "need_text")) (PySem.Value.str (PySem.Str.ofString "need_text") 374) (PySem.Value.ref 156), PySem.DictEntry.mk (PySem.PyData.keyHash P (PySem.Str.ofString "checked_whole")) (PySem.Value.str (PySem.Str.ofString "checked_whole") 382) (PySem.Value.ref 163), PySem.DictEntry.mk (PySem.PyData.keyHash P (PySem.Str.ofString "NULL_NODE")) (PySem.Value.str (PySem.Str.ofString "NULL_NODE") 387) (PySem.Value.ref 164), PySem.DictEntry.mk (PySem.PyData.keyHash P (PySem.Str.ofString "MOST_PARTS")) (PySem.Value.str (PySem.Str.ofString "MOST_PARTS") 389) (PySem.Value.int 600 388), PySem.DictEntry.mk (PySem.PyData.keyHash P (PySem.Str.ofString "MOST_DEPTH")) (PySem.Value.str (PySem.Str.ofString "MOST_DEPTH") 391) (PySem.Value.int 100 390), PySem.DictEntry.mk (PySem.PyData.keyHash P (PySem.Str.ofString "MOST_SIGNS")) (PySem.Value.str (PySem.Str.ofString "MOST_SIGNS") 393) (PySem.Value.int 20000 392), PySem.DictEntry.mk (PySem.PyData.keyHash P (PySem.Str.ofString "TOO_GREAT")) (PySem.Value.str (PySem.Str.ofString "TOO_GREAT") 395) (PySem.Value.int 23 394), PySem.DictEntry.mk (PySem.PyData.keyHash P (PySem.Str.ofString "is_null_node")) (PySem.Value.str (PySem.Str.ofString "is_null_node") 402) (PySem.Value.ref 171), PySem.DictEntry.mk (PySem.PyData.keyHash P (PySem.Str.ofString "joined")) (PySem.Value.str (PySem.Str.ofString "joined") 410) (PySem.Value.ref 178), PySem.DictEntry.mk (PySem.PyData.keyHash P (PySem.Str.ofString "pattern_of")) (PySem.Value.str (PySem.Str.ofString "pattern_of") 418) (PySem.Value.ref 185), PySem.DictEntry.mk (PySem.PyData.keyHash P (PySem.Str.ofString "parts_of")) (PySem.Value.str (PySem.Str.ofString "parts_of") 425) (PySem.Value.ref 192), PySem.DictEntry.mk (PySem.PyData.keyHash P (PySem.Str.ofString "checked_node")) (PySem.Value.str (PySem.Str.ofString "checked_node") 437) (PySem.Value.ref 199), PySem.DictEntry.mk (PySem.PyData.keyHash P (PySem.Str.ofString "World")) (PySem.Value.str (PySem.Str.ofString "World") 500) (PySem.Value.ref 217), PySem.DictEntry.mk (PySem.PyData.keyHash P (PySem.Str.ofString "check_length")) (PySem.Value.str (PySem.Str.ofString "check_length") 508) (PySem.Value.ref 228), PySem.DictEntry.mk (PySem.PyData.keyHash P (PySem.Str.ofString "divided")) (PySem.Value.str (PySem.Str.ofString "divided") 519) (PySem.Value.ref 235), PySem.DictEntry.mk (PySem.PyData.keyHash P (PySem.Str.ofString "remainder")) (PySem.Value.str (PySem.Str.ofString "remainder") 527) (PySem.Value.ref 242), PySem.DictEntry.mk (PySem.PyData.keyHash P (PySem.Str.ofString "is_part")) (PySem.Value.str (PySem.Str.ofString "is_part") 534) (PySem.Value.ref 249), PySem.DictEntry.mk (PySem.PyData.keyHash P (PySem.Str.ofString "join_values")) (PySem.Value.str (PySem.Str.ofString "join_values") 543) (PySem.Value.ref 256), PySem.DictEntry.mk (PySem.PyData.keyHash P (PySem.Str.ofString "part_of")) (PySem.Value.str (PySem.Str.ofString "part_of") 554) (PySem.Value.ref 263), PySem.DictEntry.mk (PySem.PyData.keyHash P (PySem.Str.ofString "told_or_fail")) (PySem.Value.str (PySem.Str.ofString "told_or_fail") 561) (PySem.Value.ref 270), PySem.DictEntry.mk (PySem.PyData.keyHash P (PySem.Str.ofString "text_size")) (PySem.Value.str (PySem.Str.ofString "text_size") 569) (PySem.Value.ref 277), PySem.DictEntry.mk (PySem.PyData.keyHash P (PySem.Str.ofString "text_dupl")) (PySem.Value.str (PySem.Str.ofString "text_dupl") 579) (PySem.Value.ref 284), PySem.DictEntry.mk (PySem.PyData.keyHash P (PySem.Str.ofString "text_reverse")) (PySem.Value.str (PySem.Str.ofString "text_reverse") 587) (PySem.Value.ref 291), PySem.DictEntry.mk (PySem.PyData.keyHash P (PySem.Str.ofString "text_substr")) (PySem.Value.str (PySem.Str.ofString "text_substr") 597) (PySem.Value.ref 298), PySem.DictEntry.mk (PySem.PyData.keyHash P (PySem.Str.ofString "whole_remdr")) (PySem.Value.str (PySem.Str.ofString "whole_remdr") 606) (PySem.Value.ref 305), PySem.DictEntry.mk (PySem.PyData.keyHash P (PySem.Str.ofString "_law_is_even")) (PySem.Value.str (PySem.Str.ofString "_law_is_even") 614) (PySem.Value.ref 310), PySem.DictEntry.mk (PySem.PyData.keyHash P (PySem.Str.ofString "law")) (PySem.Value.str (PySem.Str.ofString "law") 620) (PySem.Value.ref 315)] 48) #[]) ::
  (nat_lit 15, PySem.Obj.mk (PySem.Value.type "tuple") Option.none (PySem.Data.seq #[PySem.Value.type "Exception"]) #[]) ::
  (nat_lit 18, PySem.Obj.mk (PySem.Value.type "cell") Option.none (PySem.Data.cell (Option.some (PySem.Value.ref 34))) #[]) ::
  (nat_lit 23, PySem.Obj.mk (PySem.Value.type "tuple") Option.none (PySem.Data.seq #[PySem.Value.str (PySem.Str.ofString "") 201]) #[]) ::
  (nat_lit 24, PySem.Obj.mk (PySem.Value.type "tuple") Option.none (PySem.Data.seq #[PySem.Value.ref 18]) #[]) ::
  (nat_lit 25, PySem.Obj.mk (PySem.Value.type "tuple") Option.none (PySem.Data.seq #[PySem.Value.str (PySem.Str.ofString "__class__") 205]) #[]) ::
  (nat_lit 27, PySem.Obj.mk (PySem.Value.type "tuple") Option.none (PySem.Data.seq #[PySem.Value.str (PySem.Str.ofString "self") 206, PySem.Value.str (PySem.Str.ofString "number") 207, PySem.Value.str (PySem.Str.ofString "told") 208]) #[]) ::
  (nat_lit 28, PySem.Obj.mk (PySem.Value.type "tuple") Option.none (PySem.Data.seq #[]) #[]) ::
  (nat_lit 30, PySem.Obj.mk (PySem.Value.type "code") Option.none (PySem.Data.fields #[PySem.Value.str (PySem.Str.ofString "__init__") 202, PySem.Value.str (PySem.Str.ofString "SnobolError.__init__") 203, PySem.Value.str (PySem.Str.ofString "/claim/cut.py") 204, PySem.Value.int 4 0, PySem.Value.int 3 0, PySem.Value.int 0 0, PySem.Value.int 0 0, PySem.Value.int 3 0, PySem.Value.ref 25, PySem.Value.bool Bool.true, PySem.Value.int 181 0, PySem.Value.ref 26, PySem.Value.none, PySem.Value.ref 27, PySem.Value.ref 28, PySem.Value.ref 29, PySem.Value.int 209 0, PySem.Value.int 4 0, PySem.Value.str (PySem.Str.ofString "/claim/cut.py") 210]) #[]) ::
  (nat_lit 32, PySem.Obj.mk (PySem.Value.type "tuple") Option.none (PySem.Data.seq #[PySem.Value.str (PySem.Str.ofString "number") 212, PySem.Value.str (PySem.Str.ofString "told") 213]) #[]) ::
  (nat_lit 33, PySem.Obj.mk (PySem.Value.type "dict") Option.none (PySem.Data.dict #[PySem.DictEntry.mk (PySem.PyData.keyHash P (PySem.Str.ofString "__module__")) (PySem.Value.str (PySem.Str.ofString "__module__") 196) (PySem.Value.str (PySem.Str.ofString "snobol.values") 187), PySem.DictEntry.mk (PySem.PyData.keyHash P (PySem.Str.ofString "__firstlineno__")) (PySem.Value.str (PySem.Str.ofString "__firstlineno__") 200) (PySem.Value.int 2 199), PySem.DictEntry.mk (PySem.PyData.keyHash P (PySem.Str.ofString "__init__")) (PySem.Value.str (PySem.Str.ofString "__init__") 211) (PySem.Value.ref 31), PySem.DictEntry.mk (PySem.PyData.keyHash P (PySem.Str.ofString "__static_attributes__")) (PySem.Value.str (PySem.Str.ofString "__static_attributes__") 214) (PySem.Value.ref 32), PySem.DictEntry.mk (PySem.PyData.keyHash P (PySem.Str.ofString "__weakref__")) (PySem.Value.str (PySem.Str.ofString "__weakref__") 217) (PySem.Value.ref 35), PySem.DictEntry.mk (PySem.PyData.keyHash P (PySem.Str.ofString "__doc__")) (PySem.Value.str (PySem.Str.ofString "__doc__") 218) PySem.Value.none] 4) #[]) ::
  (nat_lit 34, PySem.Obj.mk (PySem.Value.type "type") Option.none (PySem.Data.cls (PySem.ClassData.mk (PySem.Str.ofString "SnobolError") [PySem.Value.type "Exception"] [PySem.Value.ref 34, PySem.Value.type "Exception", PySem.Value.type "BaseException", PySem.Value.type "object"] 33 (PySem.Str.ofString "SnobolError") Bool.true [] [] Bool.false Option.none Bool.false)) #[Option.some (PySem.Value.ref 15), Option.none, Option.some (PySem.Value.str (PySem.Str.ofString "SnobolError") 189), Option.some (PySem.Value.str (PySem.Str.ofString "SnobolError") 197), Option.some (PySem.Value.builtin "Exception.__new__"), Option.some (PySem.Value.bool Bool.true)]) ::
  (nat_lit 35, PySem.Obj.mk (PySem.Value.type "getset_descriptor") Option.none (PySem.Data.fields #[PySem.Value.str (PySem.Str.ofString "__weakref__") 216, PySem.Value.ref 34, PySem.Value.builtin "ExceptionGroup.__weakref__", PySem.Value.none]) #[]) ::
  (nat_lit 45, PySem.Obj.mk (PySem.Value.type "tuple") Option.none (PySem.Data.seq #[]) #[]) ::
  (nat_lit 46, PySem.Obj.mk (PySem.Value.type "dict") Option.none (PySem.Data.dict #[PySem.DictEntry.mk (PySem.PyData.keyHash P (PySem.Str.ofString "__module__")) (PySem.Value.str (PySem.Str.ofString "__module__") 230) (PySem.Value.str (PySem.Str.ofString "snobol.values") 187), PySem.DictEntry.mk (PySem.PyData.keyHash P (PySem.Str.ofString "__firstlineno__")) (PySem.Value.str (PySem.Str.ofString "__firstlineno__") 234) (PySem.Value.int 8 233), PySem.DictEntry.mk (PySem.PyData.keyHash P (PySem.Str.ofString "__static_attributes__")) (PySem.Value.str (PySem.Str.ofString "__static_attributes__") 235) (PySem.Value.ref 45), PySem.DictEntry.mk (PySem.PyData.keyHash P (PySem.Str.ofString "__dict__")) (PySem.Value.str (PySem.Str.ofString "__dict__") 237) (PySem.Value.ref 48), PySem.DictEntry.mk (PySem.PyData.keyHash P (PySem.Str.ofString "__weakref__")) (PySem.Value.str (PySem.Str.ofString "__weakref__") 239) (PySem.Value.ref 49), PySem.DictEntry.mk (PySem.PyData.keyHash P (PySem.Str.ofString "__doc__")) (PySem.Value.str (PySem.Str.ofString "__doc__") 240) PySem.Value.none] 4) #[]) ::
  (nat_lit 47, PySem.Obj.mk (PySem.Value.type "type") Option.none (PySem.Data.cls (PySem.ClassData.mk (PySem.Str.ofString "Failure") [PySem.Value.type "object"] [PySem.Value.ref 47, PySem.Value.type "object"] 46 (PySem.Str.ofString "Failure") Bool.true [] [] Bool.false Option.none Bool.false)) #[Option.none, Option.none, Option.some (PySem.Value.str (PySem.Str.ofString "Failure") 223), Option.some (PySem.Value.str (PySem.Str.ofString "Failure") 231), Option.some (PySem.Value.builtin "object.__new__"), Option.some (PySem.Value.bool Bool.true)]) ::
  (nat_lit 48, PySem.Obj.mk (PySem.Value.type "getset_descriptor") Option.none (PySem.Data.fields #[PySem.Value.str (PySem.Str.ofString "__dict__") 236, PySem.Value.ref 47, PySem.Value.builtin "function.__dict__", PySem.Value.builtin "function.__dict__#set"]) #[]) ::
  (nat_lit 49, PySem.Obj.mk (PySem.Value.type "getset_descriptor") Option.none (PySem.Data.fields #[PySem.Value.str (PySem.Str.ofString "__weakref__") 238, PySem.Value.ref 47, PySem.Value.builtin "ExceptionGroup.__weakref__", PySem.Value.none]) #[]) ::
  (nat_lit 59, PySem.Obj.mk (PySem.Value.type "tuple") Option.none (PySem.Data.seq #[]) #[]) ::
  (nat_lit 61, PySem.Obj.mk (PySem.Value.type "tuple") Option.none (PySem.Data.seq #[PySem.Value.str (PySem.Str.ofString "self") 258, PySem.Value.str (PySem.Str.ofString "node") 259]) #[]) ::
  (nat_lit 62, PySem.Obj.mk (PySem.Value.type "tuple") Option.none (PySem.Data.seq #[]) #[]) ::
  (nat_lit 64, PySem.Obj.mk (PySem.Value.type "code") Option.none (PySem.Data.fields #[PySem.Value.str (PySem.Str.ofString "__init__") 255, PySem.Value.str (PySem.Str.ofString "Pattern.__init__") 256, PySem.Value.str (PySem.Str.ofString "/claim/cut.py") 257, PySem.Value.int 12 0, PySem.Value.int 2 0, PySem.Value.int 0 0, PySem.Value.int 0 0, PySem.Value.int 3 0, PySem.Value.ref 59, PySem.Value.bool Bool.true, PySem.Value.int 181 0, PySem.Value.ref 60, PySem.Value.none, PySem.Value.ref 61, PySem.Value.ref 62, PySem.Value.ref 63, PySem.Value.int 260 0, PySem.Value.int 12 0, PySem.Value.str (PySem.Str.ofString "/claim/cut.py") 261]) #[]) ::
  (nat_lit 66, PySem.Obj.mk (PySem.Value.type "tuple") Option.none (PySem.Data.seq #[PySem.Value.str (PySem.Str.ofString "node") 263]) #[]) ::
  (nat_lit 67, PySem.Obj.mk (PySem.Value.type "dict") Option.none (PySem.Data.dict #[PySem.DictEntry.mk (PySem.PyData.keyHash P (PySem.Str.ofString "__module__")) (PySem.Value.str (PySem.Str.ofString "__module__") 250) (PySem.Value.str (PySem.Str.ofString "snobol.values") 187), PySem.DictEntry.mk (PySem.PyData.keyHash P (PySem.Str.ofString "__firstlineno__")) (PySem.Value.str (PySem.Str.ofString "__firstlineno__") 254) (PySem.Value.int 10 253), PySem.DictEntry.mk (PySem.PyData.keyHash P (PySem.Str.ofString "__init__")) (PySem.Value.str (PySem.Str.ofString "__init__") 262) (PySem.Value.ref 65), PySem.DictEntry.mk (PySem.PyData.keyHash P (PySem.Str.ofString "__static_attributes__")) (PySem.Value.str (PySem.Str.ofString "__static_attributes__") 264) (PySem.Value.ref 66), PySem.DictEntry.mk (PySem.PyData.keyHash P (PySem.Str.ofString "__dict__")) (PySem.Value.str (PySem.Str.ofString "__dict__") 266) (PySem.Value.ref 69), PySem.DictEntry.mk (PySem.PyData.keyHash P (PySem.Str.ofString "__weakref__")) (PySem.Value.str (PySem.Str.ofString "__weakref__") 268) (PySem.Value.ref 70), PySem.DictEntry.mk (PySem.PyData.keyHash P (PySem.Str.ofString "__doc__")) (PySem.Value.str (PySem.Str.ofString "__doc__") 269) PySem.Value.none] 4) #[]) ::
  (nat_lit 68, PySem.Obj.mk (PySem.Value.type "type") Option.none (PySem.Data.cls (PySem.ClassData.mk (PySem.Str.ofString "Pattern") [PySem.Value.type "object"] [PySem.Value.ref 68, PySem.Value.type "object"] 67 (PySem.Str.ofString "Pattern") Bool.true [] [] Bool.false Option.none Bool.false)) #[Option.none, Option.none, Option.some (PySem.Value.str (PySem.Str.ofString "Pattern") 243), Option.some (PySem.Value.str (PySem.Str.ofString "Pattern") 251), Option.some (PySem.Value.builtin "object.__new__"), Option.some (PySem.Value.bool Bool.true)]) ::
  (nat_lit 69, PySem.Obj.mk (PySem.Value.type "getset_descriptor") Option.none (PySem.Data.fields #[PySem.Value.str (PySem.Str.ofString "__dict__") 265, PySem.Value.ref 68, PySem.Value.builtin "function.__dict__", PySem.Value.builtin "function.__dict__#set"]) #[]) ::
  (nat_lit 70, PySem.Obj.mk (PySem.Value.type "getset_descriptor") Option.none (PySem.Data.fields #[PySem.Value.str (PySem.Str.ofString "__weakref__") 267, PySem.Value.ref 68, PySem.Value.builtin "ExceptionGroup.__weakref__", PySem.Value.none]) #[]) ::
  (nat_lit 80, PySem.Obj.mk (PySem.Value.type "tuple") Option.none (PySem.Data.seq #[]) #[]) ::
  (nat_lit 82, PySem.Obj.mk (PySem.Value.type "tuple") Option.none (PySem.Data.seq #[PySem.Value.str (PySem.Str.ofString "self") 287, PySem.Value.str (PySem.Str.ofString "tree") 288]) #[]) ::
  (nat_lit 83, PySem.Obj.mk (PySem.Value.type "tuple") Option.none (PySem.Data.seq #[]) #[]) ::
  (nat_lit 85, PySem.Obj.mk (PySem.Value.type "code") Option.none (PySem.Data.fields #[PySem.Value.str (PySem.Str.ofString "__init__") 284, PySem.Value.str (PySem.Str.ofString "Delayed.__init__") 285, PySem.Value.str (PySem.Str.ofString "/claim/cut.py") 286, PySem.Value.int 16 0, PySem.Value.int 2 0, PySem.Value.int 0 0, PySem.Value.int 0 0, PySem.Value.int 3 0, PySem.Value.ref 80, PySem.Value.bool Bool.true, PySem.Value.int 181 0, PySem.Value.ref 81, PySem.Value.none, PySem.Value.ref 82, PySem.Value.ref 83, PySem.Value.ref 84, PySem.Value.int 289 0, PySem.Value.int 16 0, PySem.Value.str (PySem.Str.ofString "/claim/cut.py") 290]) #[]) ::
  (nat_lit 87, PySem.Obj.mk (PySem.Value.type "tuple") Option.none (PySem.Data.seq #[PySem.Value.str (PySem.Str.ofString "tree") 292]) #[]) ::
  (nat_lit 88, PySem.Obj.mk (PySem.Value.type "dict") Option.none (PySem.Data.dict #[PySem.DictEntry.mk (PySem.PyData.keyHash P (PySem.Str.ofString "__module__")) (PySem.Value.str (PySem.Str.ofString "__module__") 279) (PySem.Value.str (PySem.Str.ofString "snobol.values") 187), PySem.DictEntry.mk (PySem.PyData.keyHash P (PySem.Str.ofString "__firstlineno__")) (PySem.Value.str (PySem.Str.ofString "__firstlineno__") 283) (PySem.Value.int 14 282), PySem.DictEntry.mk (PySem.PyData.keyHash P (PySem.Str.ofString "__init__")) (PySem.Value.str (PySem.Str.ofString "__init__") 291) (PySem.Value.ref 86), PySem.DictEntry.mk (PySem.PyData.keyHash P (PySem.Str.ofString "__static_attributes__")) (PySem.Value.str (PySem.Str.ofString "__static_attributes__") 293) (PySem.Value.ref 87), PySem.DictEntry.mk (PySem.PyData.keyHash P (PySem.Str.ofString "__dict__")) (PySem.Value.str (PySem.Str.ofString "__dict__") 295) (PySem.Value.ref 90), PySem.DictEntry.mk (PySem.PyData.keyHash P (PySem.Str.ofString "__weakref__")) (PySem.Value.str (PySem.Str.ofString "__weakref__") 297) (PySem.Value.ref 91), PySem.DictEntry.mk (PySem.PyData.keyHash P (PySem.Str.ofString "__doc__")) (PySem.Value.str (PySem.Str.ofString "__doc__") 298) PySem.Value.none] 4) #[]) ::
  (nat_lit 89, PySem.Obj.mk (PySem.Value.type "type") Option.none (PySem.Data.cls (PySem.ClassData.mk (PySem.Str.ofString "Delayed") [PySem.Value.type "object"] [PySem.Value.ref 89, PySem.Value.type "object"] 88 (PySem.Str.ofString "Delayed") Bool.true [] [] Bool.false Option.none Bool.false)) #[Option.none, Option.none, Option.some (PySem.Value.str (PySem.Str.ofString "Delayed") 272), Option.some (PySem.Value.str (PySem.Str.ofString "Delayed") 280), Option.some (PySem.Value.builtin "object.__new__"), Option.some (PySem.Value.bool Bool.true)]) ::
  (nat_lit 90, PySem.Obj.mk (PySem.Value.type "getset_descriptor") Option.none (PySem.Data.fields #[PySem.Value.str (PySem.Str.ofString "__dict__") 294, PySem.Value.ref 89, PySem.Value.builtin "function.__dict__", PySem.Value.builtin "function.__dict__#set"]) #[]) ::
  (nat_lit 91, PySem.Obj.mk (PySem.Value.type "getset_descriptor") Option.none (PySem.Data.fields #[PySem.Value.str (PySem.Str.ofString "__weakref__") 296, PySem.Value.ref 89, PySem.Value.builtin "ExceptionGroup.__weakref__", PySem.Value.none]) #[]) ::
  (nat_lit 94, PySem.Obj.mk (PySem.Value.type "tuple") Option.none (PySem.Data.seq #[]) #[]) ::
  (nat_lit 96, PySem.Obj.mk (PySem.Value.type "tuple") Option.none (PySem.Data.seq #[PySem.Value.str (PySem.Str.ofString "value") 304]) #[]) ::
  (nat_lit 97, PySem.Obj.mk (PySem.Value.type "tuple") Option.none (PySem.Data.seq #[]) #[]) ::
  (nat_lit 99, PySem.Obj.mk (PySem.Value.type "code") Option.none (PySem.Data.fields #[PySem.Value.str (PySem.Str.ofString "is_null") 301, PySem.Value.str (PySem.Str.ofString "is_null") 302, PySem.Value.str (PySem.Str.ofString "/claim/cut.py") 303, PySem.Value.int 18 0, PySem.Value.int 1 0, PySem.Value.int 0 0, PySem.Value.int 0 0, PySem.Value.int 3 0, PySem.Value.ref 94, PySem.Value.bool Bool.true, PySem.Value.int 181 0, PySem.Value.ref 95, PySem.Value.none, PySem.Value.ref 96, PySem.Value.ref 97, PySem.Value.ref 98, PySem.Value.int 305 0, PySem.Value.int 18 0, PySem.Value.str (PySem.Str.ofString "/claim/cut.py") 306]) #[]) ::
  (nat_lit 100, fnO (l := (hB.drop 5)) rfl (fun a b c => PySem.Obj.mk (PySem.Value.type "function") Option.none (PySem.Data.func (PySem.FuncData.mk (PySem.Str.ofString "is_null") (PySem.Str.ofString "is_null") a (PySem.FuncBody.stmts b) c 3 [] PySem.Value.none PySem.Value.none PySem.Value.none (PySem.Value.str (PySem.Str.ofString "snobol.values") 187) Option.none (PySem.Value.ref 99) PySem.Value.none 0)) #[])) ::
  (nat_lit 101, PySem.Obj.mk (PySem.Value.type "tuple") Option.none (PySem.Data.seq #[]) #[]) ::
  (nat_lit 103, PySem.Obj.mk (PySem.Value.type "tuple") Option.none (PySem.Data.seq #[PySem.Value.str (PySem.Str.ofString "value") 311]) #[]) ::
  (nat_lit 104, PySem.Obj.mk (PySem.Value.type "tuple") Option.none (PySem.Data.seq #[]) #[]) ::
  (nat_lit 106, PySem.Obj.mk (PySem.Value.type "code") Option.none (PySem.Data.fields #[PySem.Value.str (PySem.Str.ofString "is_plain") 308, PySem.Value.str (PySem.Str.ofString "is_plain") 309, PySem.Value.str (PySem.Str.ofString "/claim/cut.py") 310, PySem.Value.int 20 0, PySem.Value.int 1 0, PySem.Value.int 0 0, PySem.Value.int 0 0, PySem.Value.int 3 0, PySem.Value.ref 101, PySem.Value.bool Bool.true, PySem.Value.int 181 0, PySem.Value.ref 102, PySem.Value.none, PySem.Value.ref 103, PySem.Value.ref 104, PySem.Value.ref 105, PySem.Value.int 312 0, PySem.Value.int 20 0, PySem.Value.str (PySem.Str.ofString "/claim/cut.py") 313]) #[]) ::
  (nat_lit 107, fnO (l := (hB.drop 6)) rfl (fun a b c => PySem.Obj.mk (PySem.Value.type "function") Option.none (PySem.Data.func (PySem.FuncData.mk (PySem.Str.ofString "is_plain") (PySem.Str.ofString "is_plain") a (PySem.FuncBody.stmts b) c 3 [] PySem.Value.none PySem.Value.none PySem.Value.none (PySem.Value.str (PySem.Str.ofString "snobol.values") 187) Option.none (PySem.Value.ref 106) PySem.Value.none 0)) #[])) ::
  (nat_lit 108, PySem.Obj.mk (PySem.Value.type "tuple") Option.none (PySem.Data.seq #[]) #[]) ::
  (nat_lit 110, PySem.Obj.mk (PySem.Value.type "tuple") Option.none (PySem.Data.seq #[PySem.Value.str (PySem.Str.ofString "number") 318, PySem.Value.str (PySem.Str.ofString "width") 319]) #[]) ::
  (nat_lit 111, PySem.Obj.mk (PySem.Value.type "tuple") Option.none (PySem.Data.seq #[]) #[]) ::
  (nat_lit 113, PySem.Obj.mk (PySem.Value.type "code") Option.none (PySem.Data.fields #[PySem.Value.str (PySem.Str.ofString "fits") 315, PySem.Value.str (PySem.Str.ofString "fits") 316, PySem.Value.str (PySem.Str.ofString "/claim/cut.py") 317, PySem.Value.int 22 0, PySem.Value.int 2 0, PySem.Value.int 0 0, PySem.Value.int 0 0, PySem.Value.int 3 0, PySem.Value.ref 108, PySem.Value.bool Bool.true, PySem.Value.int 181 0, PySem.Value.ref 109, PySem.Value.none, PySem.Value.ref 110, PySem.Value.ref 111, PySem.Value.ref 112, PySem.Value.int 320 0, PySem.Value.int 22 0, PySem.Value.str (PySem.Str.ofString "/claim/cut.py") 321]) #[]) ::
  (nat_lit 114, fnO (l := (hB.drop 7)) rfl (fun a b c => PySem.Obj.mk (PySem.Value.type "function") Option.none (PySem.Data.func (PySem.FuncData.mk (PySem.Str.ofString "fits") (PySem.Str.ofString "fits") a (PySem.FuncBody.stmts b) c 3 [] PySem.Value.none PySem.Value.none PySem.Value.none (PySem.Value.str (PySem.Str.ofString "snobol.values") 187) Option.none (PySem.Value.ref 113) PySem.Value.none 0)) #[])) ::
  (nat_lit 115, PySem.Obj.mk (PySem.Value.type "tuple") Option.none (PySem.Data.seq #[]) #[]) ::
  (nat_lit 117, PySem.Obj.mk (PySem.Value.type "tuple") Option.none (PySem.Data.seq #[PySem.Value.str (PySem.Str.ofString "text") 326, PySem.Value.str (PySem.Str.ofString "width") 327, PySem.Value.str (PySem.Str.ofString "digits") 328, PySem.Value.str (PySem.Str.ofString "number") 329, PySem.Value.str (PySem.Str.ofString "sign") 330]) #[]) ::
  (nat_lit 118, PySem.Obj.mk (PySem.Value.type "tuple") Option.none (PySem.Data.seq #[]) #[]) ::
  (nat_lit 120, PySem.Obj.mk (PySem.Value.type "code") Option.none (PySem.Data.fields #[PySem.Value.str (PySem.Str.ofString "whole_of_text") 323, PySem.Value.str (PySem.Str.ofString "whole_of_text") 324, PySem.Value.str (PySem.Str.ofString "/claim/cut.py") 325, PySem.Value.int 24 0, PySem.Value.int 2 0, PySem.Value.int 0 0, PySem.Value.int 0 0, PySem.Value.int 3 0, PySem.Value.ref 115, PySem.Value.bool Bool.true, PySem.Value.int 181 0, PySem.Value.ref 116, PySem.Value.none, PySem.Value.ref 117, PySem.Value.ref 118, PySem.Value.ref 119, PySem.Value.int 331 0, PySem.Value.int 24 0, PySem.Value.str (PySem.Str.ofString "/claim/cut.py") 332]) #[]) ::
  (nat_lit 122, PySem.Obj.mk (PySem.Value.type "tuple") Option.none (PySem.Data.seq #[]) #[]) ::
  (nat_lit 124, PySem.Obj.mk (PySem.Value.type "tuple") Option.none (PySem.Data.seq #[PySem.Value.str (PySem.Str.ofString "number") 337, PySem.Value.str (PySem.Str.ofString "left") 338, PySem.Value.str (PySem.Str.ofString "found") 339]) #[]) ::
  (nat_lit 125, PySem.Obj.mk (PySem.Value.type "tuple") Option.none (PySem.Data.seq #[]) #[]) ::
  (nat_lit 127, PySem.Obj.mk (PySem.Value.type "code") Option.none (PySem.Data.fields #[PySem.Value.str (PySem.Str.ofString "text_of_whole") 334, PySem.Value.str (PySem.Str.ofString "text_of_whole") 335, PySem.Value.str (PySem.Str.ofString "/claim/cut.py") 336, PySem.Value.int 37 0, PySem.Value.int 1 0, PySem.Value.int 0 0, PySem.Value.int 0 0, PySem.Value.int 3 0, PySem.Value.ref 122, PySem.Value.bool Bool.true, PySem.Value.int 181 0, PySem.Value.ref 123, PySem.Value.none, PySem.Value.ref 124, PySem.Value.ref 125, PySem.Value.ref 126, PySem.Value.int 340 0, PySem.Value.int 37 0, PySem.Value.str (PySem.Str.ofString "/claim/cut.py") 341]) #[]) ::
  (nat_lit 129, PySem.Obj.mk (PySem.Value.type "tuple") Option.none (PySem.Data.seq #[]) #[]) ::
  (nat_lit 131, PySem.Obj.mk (PySem.Value.type "tuple") Option.none (PySem.Data.seq #[PySem.Value.str (PySem.Str.ofString "value") 346, PySem.Value.str (PySem.Str.ofString "width") 347]) #[]) ::
  (nat_lit 132, PySem.Obj.mk (PySem.Value.type "tuple") Option.none (PySem.Data.seq #[]) #[]) ::
  (nat_lit 134, PySem.Obj.mk (PySem.Value.type "code") Option.none (PySem.Data.fields #[PySem.Value.str (PySem.Str.ofString "to_whole") 343, PySem.Value.str (PySem.Str.ofString "to_whole") 344, PySem.Value.str (PySem.Str.ofString "/claim/cut.py") 345, PySem.Value.int 43 0, PySem.Value.int 2 0, PySem.Value.int 0 0, PySem.Value.int 0 0, PySem.Value.int 3 0, PySem.Value.ref 129, PySem.Value.bool Bool.true, PySem.Value.int 181 0, PySem.Value.ref 130, PySem.Value.none, PySem.Value.ref 131, PySem.Value.ref 132, PySem.Value.ref 133, PySem.Value.int 348 0, PySem.Value.int 43 0, PySem.Value.str (PySem.Str.ofString "/claim/cut.py") 349]) #[]) ::
  (nat_lit 135, fnO (l := (hB.drop 10)) rfl (fun a b c => PySem.Obj.mk (PySem.Value.type "function") Option.none (PySem.Data.func (PySem.FuncData.mk (PySem.Str.ofString "to_whole") (PySem.Str.ofString "to_whole") a (PySem.FuncBody.stmts b) c 3 [] PySem.Value.none PySem.Value.none PySem.Value.none (PySem.Value.str (PySem.Str.ofString "snobol.values") 187) Option.none (PySem.Value.ref 134) PySem.Value.none 0)) #[])) ::
  (nat_lit 136, PySem.Obj.mk (PySem.Value.type "tuple") Option.none (PySem.Data.seq #[]) #[]) ::
  (nat_lit 138, PySem.Obj.mk (PySem.Value.type "tuple") Option.none (PySem.Data.seq #[PySem.Value.str (PySem.Str.ofString "value") 354]) #[]) ::
  (nat_lit 139, PySem.Obj.mk (PySem.Value.type "tuple") Option.none (PySem.Data.seq #[]) #[]) ::
  (nat_lit 141, PySem.Obj.mk (PySem.Value.type "code") Option.none (PySem.Data.fields #[PySem.Value.str (PySem.Str.ofString "to_text") 351, PySem.Value.str (PySem.Str.ofString "to_text") 352, PySem.Value.str (PySem.Str.ofString "/claim/cut.py") 353, PySem.Value.int 47 0, PySem.Value.int 1 0, PySem.Value.int 0 0, PySem.Value.int 0 0, PySem.Value.int 3 0, PySem.Value.ref 136, PySem.Value.bool Bool.true, PySem.Value.int 181 0, PySem.Value.ref 137, PySem.Value.none, PySem.Value.ref 138, PySem.Value.ref 139, PySem.Value.ref 140, PySem.Value.int 355 0, PySem.Value.int 47 0, PySem.Value.str (PySem.Str.ofString "/claim/cut.py") 356]) #[]) ::
  (nat_lit 142, fnO (l := (hB.drop 11)) rfl (fun a b c => PySem.Obj.mk (PySem.Value.type "function") Option.none (PySem.Data.func (PySem.FuncData.mk (PySem.Str.ofString "to_text") (PySem.Str.ofString "to_text") a (PySem.FuncBody.stmts b) c 3 [] PySem.Value.none PySem.Value.none PySem.Value.none (PySem.Value.str (PySem.Str.ofString "snobol.values") 187) Option.none (PySem.Value.ref 141) PySem.Value.none 0)) #[])) ::
  (nat_lit 143, PySem.Obj.mk (PySem.Value.type "tuple") Option.none (PySem.Data.seq #[]) #[]) ::
  (nat_lit 145, PySem.Obj.mk (PySem.Value.type "tuple") Option.none (PySem.Data.seq #[PySem.Value.str (PySem.Str.ofString "value") 361, PySem.Value.str (PySem.Str.ofString "width") 362, PySem.Value.str (PySem.Str.ofString "number") 363]) #[]) ::
  (nat_lit 146, PySem.Obj.mk (PySem.Value.type "tuple") Option.none (PySem.Data.seq #[]) #[]) ::
  (nat_lit 148, PySem.Obj.mk (PySem.Value.type "code") Option.none (PySem.Data.fields #[PySem.Value.str (PySem.Str.ofString "need_whole") 358, PySem.Value.str (PySem.Str.ofString "need_whole") 359, PySem.Value.str (PySem.Str.ofString "/claim/cut.py") 360, PySem.Value.int 51 0, PySem.Value.int 2 0, PySem.Value.int 0 0, PySem.Value.int 0 0, PySem.Value.int 3 0, PySem.Value.ref 143, PySem.Value.bool Bool.true, PySem.Value.int 181 0, PySem.Value.ref 144, PySem.Value.none, PySem.Value.ref 145, PySem.Value.ref 146, PySem.Value.ref 147, PySem.Value.int 364 0, PySem.Value.int 51 0, PySem.Value.str (PySem.Str.ofString "/claim/cut.py") 365]) #[]) ::
  (nat_lit 149, fnO (l := (hB.drop 12)) rfl (fun a b c => PySem.Obj.mk (PySem.Value.type "function") Option.none (PySem.Data.func (PySem.FuncData.mk (PySem.Str.ofString "need_whole") (PySem.Str.ofString "need_whole") a (PySem.FuncBody.stmts b) c 3 [] PySem.Value.none PySem.Value.none PySem.Value.none (PySem.Value.str (PySem.Str.ofString "snobol.values") 187) Option.none (PySem.Value.ref 148) PySem.Value.none 0)) #[])) ::
  (nat_lit 150, PySem.Obj.mk (PySem.Value.type "tuple") Option.none (PySem.Data.seq #[]) #[]) ::
  (nat_lit 152, PySem.Obj.mk (PySem.Value.type "tuple") Option.none (PySem.Data.seq #[PySem.Value.str (PySem.Str.ofString "value") 370, PySem.Value.str (PySem.Str.ofString "text") 371]) #[]) ::
  (nat_lit 153, PySem.Obj.mk (PySem.Value.type "tuple") Option.none (PySem.Data.seq #[]) #[]) ::
  (nat_lit 155, PySem.Obj.mk (PySem.Value.type "code") Option.none (PySem.Data.fields #[PySem.Value.str (PySem.Str.ofString "need_text") 367, PySem.Value.str (PySem.Str.ofString "need_text") 368, PySem.Value.str (PySem.Str.ofString "/claim/cut.py") 369, PySem.Value.int 56 0, PySem.Value.int 1 0, PySem.Value.int 0 0, PySem.Value.int 0 0, PySem.Value.int 3 0, PySem.Value.ref 150, PySem.Value.bool Bool.true, PySem.Value.int 181 0, PySem.Value.ref 151, PySem.Value.none, PySem.Value.ref 152, PySem.Value.ref 153, PySem.Value.ref 154, PySem.Value.int 372 0, PySem.Value.int 56 0, PySem.Value.str (PySem.Str.ofString "/claim/cut.py") 373]) #[]) ::
  (nat_lit 156, fnO (l := (hB.drop 13)) rfl (fun a b c => PySem.Obj.mk (PySem.Value.type "function") Option.none (PySem.Data.func (PySem.FuncData.mk (PySem.Str.ofString "need_text") (PySem.Str.ofString "need_text") a (PySem.FuncBody.stmts b) c 3 [] PySem.Value.none PySem.Value.none PySem.Value.none (PySem.Value.str (PySem.Str.ofString "snobol.values") 187) Option.none (PySem.Value.ref 155) PySem.Value.none 0)) #[])) ::
  (nat_lit 157, PySem.Obj.mk (PySem.Value.type "tuple") Option.none (PySem.Data.seq #[]) #[]) ::
  (nat_lit 159, PySem.Obj.mk (PySem.Value.type "tuple") Option.none (PySem.Data.seq #[PySem.Value.str (PySem.Str.ofString "number") 378, PySem.Value.str (PySem.Str.ofString "width") 379]) #[]) ::
  (nat_lit 160, PySem.Obj.mk (PySem.Value.type "tuple") Option.none (PySem.Data.seq #[]) #[]) ::
  (nat_lit 162, PySem.Obj.mk (PySem.Value.type "code") Option.none (PySem.Data.fields #[PySem.Value.str (PySem.Str.ofString "checked_whole") 375, PySem.Value.str (PySem.Str.ofString "checked_whole") 376, PySem.Value.str (PySem.Str.ofString "/claim/cut.py") 377, PySem.Value.int 61 0, PySem.Value.int 2 0, PySem.Value.int 0 0, PySem.Value.int 0 0, PySem.Value.int 3 0, PySem.Value.ref 157, PySem.Value.bool Bool.true, PySem.Value.int 181 0, PySem.Value.ref 158, PySem.Value.none, PySem.Value.ref 159, PySem.Value.ref 160, PySem.Value.ref 161, PySem.Value.int 380 0, PySem.Value.int 61 0, PySem.Value.str (PySem.Str.ofString "/claim/cut.py") 381]) #[]) ::
  (nat_lit 163, fnO (l := (hB.drop 14)) rfl (fun a b c => PySem.Obj.mk (PySem.Value.type "function") Option.none (PySem.Data.func (PySem.FuncData.mk (PySem.Str.ofString "checked_whole") (PySem.Str.ofString "checked_whole") a (PySem.FuncBody.stmts b) c 3 [] PySem.Value.none PySem.Value.none PySem.Value.none (PySem.Value.str (PySem.Str.ofString "snobol.values") 187) Option.none (PySem.Value.ref 162) PySem.Value.none 0)) #[])) ::
  (nat_lit 164, PySem.Obj.mk (PySem.Value.type "tuple") Option.none (PySem.Data.seq #[PySem.Value.str (PySem.Str.ofString "chars") 385, PySem.Value.str (PySem.Str.ofString "") 386]) #[]) ::
  (nat_lit 165, PySem.Obj.mk (PySem.Value.type "tuple") Option.none (PySem.Data.seq #[]) #[]) ::
  (nat_lit 167, PySem.Obj.mk (PySem.Value.type "tuple") Option.none (PySem.Data.seq #[PySem.Value.str (PySem.Str.ofString "node") 399]) #[]) ::
  (nat_lit 168, PySem.Obj.mk (PySem.Value.type "tuple") Option.none (PySem.Data.seq #[]) #[]) ::
  (nat_lit 170, PySem.Obj.mk (PySem.Value.type "code") Option.none (PySem.Data.fields #[PySem.Value.str (PySem.Str.ofString "is_null_node") 396, PySem.Value.str (PySem.Str.ofString "is_null_node") 397, PySem.Value.str (PySem.Str.ofString "/claim/cut.py") 398, PySem.Value.int 71 0, PySem.Value.int 1 0, PySem.Value.int 0 0, PySem.Value.int 0 0, PySem.Value.int 3 0, PySem.Value.ref 165, PySem.Value.bool Bool.true, PySem.Value.int 181 0, PySem.Value.ref 166, PySem.Value.none, PySem.Value.ref 167, PySem.Value.ref 168, PySem.Value.ref 169, PySem.Value.int 400 0, PySem.Value.int 71 0, PySem.Value.str (PySem.Str.ofString "/claim/cut.py") 401]) #[]) ::
  (nat_lit 172, PySem.Obj.mk (PySem.Value.type "tuple") Option.none (PySem.Data.seq #[]) #[]) ::
  (nat_lit 174, PySem.Obj.mk (PySem.Value.type "tuple") Option.none (PySem.Data.seq #[PySem.Value.str (PySem.Str.ofString "one") 406, PySem.Value.str (PySem.Str.ofString "other") 407]) #[]) ::
  (nat_lit 175, PySem.Obj.mk (PySem.Value.type "tuple") Option.none (PySem.Data.seq #[]) #[]) ::
  (nat_lit 177, PySem.Obj.mk (PySem.Value.type "code") Option.none (PySem.Data.fields #[PySem.Value.str (PySem.Str.ofString "joined") 403, PySem.Value.str (PySem.Str.ofString "joined") 404, PySem.Value.str (PySem.Str.ofString "/claim/cut.py") 405, PySem.Value.int 73 0, PySem.Value.int 2 0, PySem.Value.int 0 0, PySem.Value.int 0 0, PySem.Value.int 3 0, PySem.Value.ref 172, PySem.Value.bool Bool.true, PySem.Value.int 181 0, PySem.Value.ref 173, PySem.Value.none, PySem.Value.ref 174, PySem.Value.ref 175, PySem.Value.ref 176, PySem.Value.int 408 0, PySem.Value.int 73 0, PySem.Value.str (PySem.Str.ofString "/claim/cut.py") 409]) #[]) ::
  (nat_lit 179, PySem.Obj.mk (PySem.Value.type "tuple") Option.none (PySem.Data.seq #[]) #[]) ::
  (nat_lit 181, PySem.Obj.mk (PySem.Value.type "tuple") Option.none (PySem.Data.seq #[PySem.Value.str (PySem.Str.ofString "value") 414, PySem.Value.str (PySem.Str.ofString "text") 415]) #[]) ::
  (nat_lit 182, PySem.Obj.mk (PySem.Value.type "tuple") Option.none (PySem.Data.seq #[]) #[]) ::
  (nat_lit 184, PySem.Obj.mk (PySem.Value.type "code") Option.none (PySem.Data.fields #[PySem.Value.str (PySem.Str.ofString "pattern_of") 411, PySem.Value.str (PySem.Str.ofString "pattern_of") 412, PySem.Value.str (PySem.Str.ofString "/claim/cut.py") 413, PySem.Value.int 81 0, PySem.Value.int 1 0, PySem.Value.int 0 0, PySem.Value.int 0 0, PySem.Value.int 3 0, PySem.Value.ref 179, PySem.Value.bool Bool.true, PySem.Value.int 181 0, PySem.Value.ref 180, PySem.Value.none, PySem.Value.ref 181, PySem.Value.ref 182, PySem.Value.ref 183, PySem.Value.int 416 0, PySem.Value.int 81 0, PySem.Value.str (PySem.Str.ofString "/claim/cut.py") 417]) #[]) ::
  (nat_lit 186, PySem.Obj.mk (PySem.Value.type "tuple") Option.none (PySem.Data.seq #[]) #[]) ::
  (nat_lit 188, PySem.Obj.mk (PySem.Value.type "tuple") Option.none (PySem.Data.seq #[PySem.Value.str (PySem.Str.ofString "node") 422]) #[]) ::
  (nat_lit 189, PySem.Obj.mk (PySem.Value.type "tuple") Option.none (PySem.Data.seq #[]) #[]) ::
  (nat_lit 191, PySem.Obj.mk (PySem.Value.type "code") Option.none (PySem.Data.fields #[PySem.Value.str (PySem.Str.ofString "parts_of") 419, PySem.Value.str (PySem.Str.ofString "parts_of") 420, PySem.Value.str (PySem.Str.ofString "/claim/cut.py") 421, PySem.Value.int 90 0, PySem.Value.int 1 0, PySem.Value.int 0 0, PySem.Value.int 0 0, PySem.Value.int 3 0, PySem.Value.ref 186, PySem.Value.bool Bool.true, PySem.Value.int 181 0, PySem.Value.ref 187, PySem.Value.none, PySem.Value.ref 188, PySem.Value.ref 189, PySem.Value.ref 190, PySem.Value.int 423 0, PySem.Value.int 90 0, PySem.Value.str (PySem.Str.ofString "/claim/cut.py") 424]) #[]) ::
  (nat_lit 193, PySem.Obj.mk (PySem.Value.type "tuple") Option.none (PySem.Data.seq #[]) #[]) ::
  (nat_lit 195, PySem.Obj.mk (PySem.Value.type "tuple") Option.none (PySem.Data.seq #[PySem.Value.str (PySem.Str.ofString "node") 429, PySem.Value.str (PySem.Str.ofString "many") 430, PySem.Value.str (PySem.Str.ofString "left") 431, PySem.Value.str (PySem.Str.ofString "here") 432, PySem.Value.str (PySem.Str.ofString "depth") 433, PySem.Value.str (PySem.Str.ofString "part") 434]) #[]) ::
  (nat_lit 196, PySem.Obj.mk (PySem.Value.type "tuple") Option.none (PySem.Data.seq #[]) #[]) ::
  (nat_lit 198, PySem.Obj.mk (PySem.Value.type "code") Option.none (PySem.Data.fields #[PySem.Value.str (PySem.Str.ofString "checked_node") 426, PySem.Value.str (PySem.Str.ofString "checked_node") 427, PySem.Value.str (PySem.Str.ofString "/claim/cut.py") 428, PySem.Value.int 94 0, PySem.Value.int 1 0, PySem.Value.int 0 0, PySem.Value.int 0 0, PySem.Value.int 3 0, PySem.Value.ref 193, PySem.Value.bool Bool.true, PySem.Value.int 181 0, PySem.Value.ref 194, PySem.Value.none, PySem.Value.ref 195, PySem.Value.ref 196, PySem.Value.ref 197, PySem.Value.int 435 0, PySem.Value.int 94 0, PySem.Value.str (PySem.Str.ofString "/claim/cut.py") 436]) #[]) ::
  (nat_lit 207, PySem.Obj.mk (PySem.Value.type "tuple") Option.none (PySem.Data.seq #[PySem.Value.int 32 452, PySem.Value.int 5000 453, PySem.Value.int 30 454, PySem.Value.int 5000 455]) #[]) ::
  (nat_lit 208, PySem.Obj.mk (PySem.Value.type "tuple") Option.none (PySem.Data.seq #[]) #[]) ::
  (nat_lit 210, PySem.Obj.mk (PySem.Value.type "tuple") Option.none (PySem.Data.seq #[PySem.Value.str (PySem.Str.ofString "self") 459, PySem.Value.str (PySem.Str.ofString "width") 460, PySem.Value.str (PySem.Str.ofString "most_steps") 461, PySem.Value.str (PySem.Str.ofString "most_depth") 462, PySem.Value.str (PySem.Str.ofString "most_length") 463]) #[]) ::
  (nat_lit 211, PySem.Obj.mk (PySem.Value.type "tuple") Option.none (PySem.Data.seq #[]) #[]) ::
  (nat_lit 213, PySem.Obj.mk (PySem.Value.type "code") Option.none (PySem.Data.fields #[PySem.Value.str (PySem.Str.ofString "__init__") 456, PySem.Value.str (PySem.Str.ofString "World.__init__") 457, PySem.Value.str (PySem.Str.ofString "/claim/cut.py") 458, PySem.Value.int 107 0, PySem.Value.int 5 0, PySem.Value.int 0 0, PySem.Value.int 0 0, PySem.Value.int 3 0, PySem.Value.ref 208, PySem.Value.bool Bool.true, PySem.Value.int 181 0, PySem.Value.ref 209, PySem.Value.none, PySem.Value.ref 210, PySem.Value.ref 211, PySem.Value.ref 212, PySem.Value.int 464 0, PySem.Value.int 107 0, PySem.Value.str (PySem.Str.ofString "/claim/cut.py") 465]) #[]) ::
  (nat_lit 214, fnO (l := (clsB (hB.drop 27))) rfl (fun a b c => PySem.Obj.mk (PySem.Value.type "function") Option.none (PySem.Data.func (PySem.FuncData.mk (PySem.Str.ofString "__init__") (PySem.Str.ofString "World.__init__") a (PySem.FuncBody.stmts b) c 3 [] (PySem.Value.ref 207) PySem.Value.none PySem.Value.none (PySem.Value.str (PySem.Str.ofString "snobol.world") 438) Option.none (PySem.Value.ref 213) PySem.Value.none 0)) #[])) ::
  (nat_lit 215, PySem.Obj.mk (PySem.Value.type "tuple") Option.none (PySem.Data.seq #[PySem.Value.str (PySem.Str.ofString "aside") 467, PySem.Value.str (PySem.Str.ofString "depth") 468, PySem.Value.str (PySem.Str.ofString "evaluate") 469, PySem.Value.str (PySem.Str.ofString "functions") 470, PySem.Value.str (PySem.Str.ofString "holders") 471, PySem.Value.str (PySem.Str.ofString "inputs") 472, PySem.Value.str (PySem.Str.ofString "kept_names") 473, PySem.Value.str (PySem.Str.ofString "keywords") 474, PySem.Value.str (PySem.Str.ofString "labels") 475, PySem.Value.str (PySem.Str.ofString "made") 476, PySem.Value.str (PySem.Str.ofString "make_code") 477, PySem.Value.str (PySem.Str.ofString "matcher") 478, PySem.Value.str (PySem.Str.ofString "most_depth") 479, PySem.Value.str (PySem.Str.ofString "most_items") 480, PySem.Value.str (PySem.Str.ofString "most_length") 481, PySem.Value.str (PySem.Str.ofString "most_steps") 482, PySem.Value.str (PySem.Str.ofString "nested") 483, PySem.Value.str (PySem.Str.ofString "opsyns") 484, PySem.Value.str (PySem.Str.ofString "outputs") 485, PySem.Value.str (PySem.Str.ofString "read_names") 486, PySem.Value.str (PySem.Str.ofString "steps") 487, PySem.Value.str (PySem.Str.ofString "store") 488, PySem.Value.str (PySem.Str.ofString "traced") 489, PySem.Value.str (PySem.Str.ofString "traces") 490, PySem.Value.str (PySem.Str.ofString "width") 491, PySem.Value.str (PySem.Str.ofString "write_names") 492]) #[]) ::
  (nat_lit 216, PySem.Obj.mk (PySem.Value.type "dict") Option.none (PySem.Data.dict #[PySem.DictEntry.mk (PySem.PyData.keyHash P (PySem.Str.ofString "__module__")) (PySem.Value.str (PySem.Str.ofString "__module__") 447) (PySem.Value.str (PySem.Str.ofString "snobol.world") 438), PySem.DictEntry.mk (PySem.PyData.keyHash P (PySem.Str.ofString "__firstlineno__")) (PySem.Value.str (PySem.Str.ofString "__firstlineno__") 451) (PySem.Value.int 105 450), PySem.DictEntry.mk (PySem.PyData.keyHash P (PySem.Str.ofString "__init__")) (PySem.Value.str (PySem.Str.ofString "__init__") 466) (PySem.Value.ref 214), PySem.DictEntry.mk (PySem.PyData.keyHash P (PySem.Str.ofString "__static_attributes__")) (PySem.Value.str (PySem.Str.ofString "__static_attributes__") 493) (PySem.Value.ref 215), PySem.DictEntry.mk (PySem.PyData.keyHash P (PySem.Str.ofString "__dict__")) (PySem.Value.str (PySem.Str.ofString "__dict__") 495) (PySem.Value.ref 218), PySem.DictEntry.mk (PySem.PyData.keyHash P (PySem.Str.ofString "__weakref__")) (PySem.Value.str (PySem.Str.ofString "__weakref__") 497) (PySem.Value.ref 219), PySem.DictEntry.mk (PySem.PyData.keyHash P (PySem.Str.ofString "__doc__")) (PySem.Value.str (PySem.Str.ofString "__doc__") 498) PySem.Value.none] 4) #[]) ::
  (nat_lit 217, PySem.Obj.mk (PySem.Value.type "type") Option.none (PySem.Data.cls (PySem.ClassData.mk (PySem.Str.ofString "World") [PySem.Value.type "object"] [PySem.Value.ref 217, PySem.Value.type "object"] 216 (PySem.Str.ofString "World") Bool.true [] [] Bool.false Option.none Bool.false)) #[Option.none, Option.none, Option.some (PySem.Value.str (PySem.Str.ofString "World") 440), Option.some (PySem.Value.str (PySem.Str.ofString "World") 448), Option.some (PySem.Value.builtin "object.__new__"), Option.some (PySem.Value.bool Bool.true)]) ::
  (nat_lit 218, PySem.Obj.mk (PySem.Value.type "getset_descriptor") Option.none (PySem.Data.fields #[PySem.Value.str (PySem.Str.ofString "__dict__") 494, PySem.Value.ref 217, PySem.Value.builtin "function.__dict__", PySem.Value.builtin "function.__dict__#set"]) #[]) ::
  (nat_lit 219, PySem.Obj.mk (PySem.Value.type "getset_descriptor") Option.none (PySem.Data.fields #[PySem.Value.str (PySem.Str.ofString "__weakref__") 496, PySem.Value.ref 217, PySem.Value.builtin "ExceptionGroup.__weakref__", PySem.Value.none]) #[]) ::
  (nat_lit 222, PySem.Obj.mk (PySem.Value.type "tuple") Option.none (PySem.Data.seq #[]) #[]) ::
  (nat_lit 224, PySem.Obj.mk (PySem.Value.type "tuple") Option.none (PySem.Data.seq #[PySem.Value.str (PySem.Str.ofString "world") 504, PySem.Value.str (PySem.Str.ofString "text") 505]) #[]) ::
  (nat_lit 225, PySem.Obj.mk (PySem.Value.type "tuple") Option.none (PySem.Data.seq #[]) #[]) ::
  (nat_lit 227, PySem.Obj.mk (PySem.Value.type "code") Option.none (PySem.Data.fields #[PySem.Value.str (PySem.Str.ofString "check_length") 501, PySem.Value.str (PySem.Str.ofString "check_length") 502, PySem.Value.str (PySem.Str.ofString "/claim/cut.py") 503, PySem.Value.int 134 0, PySem.Value.int 2 0, PySem.Value.int 0 0, PySem.Value.int 0 0, PySem.Value.int 3 0, PySem.Value.ref 222, PySem.Value.bool Bool.true, PySem.Value.int 181 0, PySem.Value.ref 223, PySem.Value.none, PySem.Value.ref 224, PySem.Value.ref 225, PySem.Value.ref 226, PySem.Value.int 506 0, PySem.Value.int 134 0, PySem.Value.str (PySem.Str.ofString "/claim/cut.py") 507]) #[]) ::
  (nat_lit 228, fnO (l := (hB.drop 28)) rfl (fun a b c => PySem.Obj.mk (PySem.Value.type "function") Option.none (PySem.Data.func (PySem.FuncData.mk (PySem.Str.ofString "check_length") (PySem.Str.ofString "check_length") a (PySem.FuncBody.stmts b) c 3 [] PySem.Value.none PySem.Value.none PySem.Value.none (PySem.Value.str (PySem.Str.ofString "snobol.world") 438) Option.none (PySem.Value.ref 227) PySem.Value.none 0)) #[])) ::
  (nat_lit 229, PySem.Obj.mk (PySem.Value.type "tuple") Option.none (PySem.Data.seq #[]) #[]) ::
  (nat_lit 231, PySem.Obj.mk (PySem.Value.type "tuple") Option.none (PySem.Data.seq #[PySem.Value.str (PySem.Str.ofString "one") 514, PySem.Value.str (PySem.Str.ofString "other") 515, PySem.Value.str (PySem.Str.ofString "found") 516]) #[]) ::
  (nat_lit 232, PySem.Obj.mk (PySem.Value.type "tuple") Option.none (PySem.Data.seq #[]) #[]) ::
  (nat_lit 234, PySem.Obj.mk (PySem.Value.type "code") Option.none (PySem.Data.fields #[PySem.Value.str (PySem.Str.ofString "divided") 511, PySem.Value.str (PySem.Str.ofString "divided") 512, PySem.Value.str (PySem.Str.ofString "/claim/cut.py") 513, PySem.Value.int 139 0, PySem.Value.int 2 0, PySem.Value.int 0 0, PySem.Value.int 0 0, PySem.Value.int 3 0, PySem.Value.ref 229, PySem.Value.bool Bool.true, PySem.Value.int 181 0, PySem.Value.ref 230, PySem.Value.none, PySem.Value.ref 231, PySem.Value.ref 232, PySem.Value.ref 233, PySem.Value.int 517 0, PySem.Value.int 139 0, PySem.Value.str (PySem.Str.ofString "/claim/cut.py") 518]) #[]) ::
  (nat_lit 235, fnO (l := (hB.drop 30)) rfl (fun a b c => PySem.Obj.mk (PySem.Value.type "function") Option.none (PySem.Data.func (PySem.FuncData.mk (PySem.Str.ofString "divided") (PySem.Str.ofString "divided") a (PySem.FuncBody.stmts b) c 3 [] PySem.Value.none PySem.Value.none PySem.Value.none (PySem.Value.str (PySem.Str.ofString "snobol.operators") 509) Option.none (PySem.Value.ref 234) PySem.Value.none 0)) #[])) ::
  (nat_lit 236, PySem.Obj.mk (PySem.Value.type "tuple") Option.none (PySem.Data.seq #[]) #[]) ::
  (nat_lit 238, PySem.Obj.mk (PySem.Value.type "tuple") Option.none (PySem.Data.seq #[PySem.Value.str (PySem.Str.ofString "one") 523, PySem.Value.str (PySem.Str.ofString "other") 524]) #[]) ::
  (nat_lit 239, PySem.Obj.mk (PySem.Value.type "tuple") Option.none (PySem.Data.seq #[]) #[]) ::
  (nat_lit 241, PySem.Obj.mk (PySem.Value.type "code") Option.none (PySem.Data.fields #[PySem.Value.str (PySem.Str.ofString "remainder") 520, PySem.Value.str (PySem.Str.ofString "remainder") 521, PySem.Value.str (PySem.Str.ofString "/claim/cut.py") 522, PySem.Value.int 144 0, PySem.Value.int 2 0, PySem.Value.int 0 0, PySem.Value.int 0 0, PySem.Value.int 3 0, PySem.Value.ref 236, PySem.Value.bool Bool.true, PySem.Value.int 181 0, PySem.Value.ref 237, PySem.Value.none, PySem.Value.ref 238, PySem.Value.ref 239, PySem.Value.ref 240, PySem.Value.int 525 0, PySem.Value.int 144 0, PySem.Value.str (PySem.Str.ofString "/claim/cut.py") 526]) #[]) ::
  (nat_lit 242, fnO (l := (hB.drop 31)) rfl (fun a b c => PySem.Obj.mk (PySem.Value.type "function") Option.none (PySem.Data.func (PySem.FuncData.mk (PySem.Str.ofString "remainder") (PySem.Str.ofString "remainder") a (PySem.FuncBody.stmts b) c 3 [] PySem.Value.none PySem.Value.none PySem.Value.none (PySem.Value.str (PySem.Str.ofString "snobol.operators") 509) Option.none (PySem.Value.ref 241) PySem.Value.none 0)) #[])) ::
  (nat_lit 243, PySem.Obj.mk (PySem.Value.type "tuple") Option.none (PySem.Data.seq #[]) #[]) ::
  (nat_lit 245, PySem.Obj.mk (PySem.Value.type "tuple") Option.none (PySem.Data.seq #[PySem.Value.str (PySem.Str.ofString "value") 531]) #[]) ::
  (nat_lit 246, PySem.Obj.mk (PySem.Value.type "tuple") Option.none (PySem.Data.seq #[]) #[]) ::
  (nat_lit 248, PySem.Obj.mk (PySem.Value.type "code") Option.none (PySem.Data.fields #[PySem.Value.str (PySem.Str.ofString "is_part") 528, PySem.Value.str (PySem.Str.ofString "is_part") 529, PySem.Value.str (PySem.Str.ofString "/claim/cut.py") 530, PySem.Value.int 146 0, PySem.Value.int 1 0, PySem.Value.int 0 0, PySem.Value.int 0 0, PySem.Value.int 3 0, PySem.Value.ref 243, PySem.Value.bool Bool.true, PySem.Value.int 181 0, PySem.Value.ref 244, PySem.Value.none, PySem.Value.ref 245, PySem.Value.ref 246, PySem.Value.ref 247, PySem.Value.int 532 0, PySem.Value.int 146 0, PySem.Value.str (PySem.Str.ofString "/claim/cut.py") 533]) #[]) ::
  (nat_lit 250, PySem.Obj.mk (PySem.Value.type "tuple") Option.none (PySem.Data.seq #[]) #[]) ::
  (nat_lit 252, PySem.Obj.mk (PySem.Value.type "tuple") Option.none (PySem.Data.seq #[PySem.Value.str (PySem.Str.ofString "world") 538, PySem.Value.str (PySem.Str.ofString "one") 539, PySem.Value.str (PySem.Str.ofString "other") 540]) #[]) ::
  (nat_lit 253, PySem.Obj.mk (PySem.Value.type "tuple") Option.none (PySem.Data.seq #[]) #[]) ::
  (nat_lit 255, PySem.Obj.mk (PySem.Value.type "code") Option.none (PySem.Data.fields #[PySem.Value.str (PySem.Str.ofString "join_values") 535, PySem.Value.str (PySem.Str.ofString "join_values") 536, PySem.Value.str (PySem.Str.ofString "/claim/cut.py") 537, PySem.Value.int 148 0, PySem.Value.int 3 0, PySem.Value.int 0 0, PySem.Value.int 0 0, PySem.Value.int 3 0, PySem.Value.ref 250, PySem.Value.bool Bool.true, PySem.Value.int 181 0, PySem.Value.ref 251, PySem.Value.none, PySem.Value.ref 252, PySem.Value.ref 253, PySem.Value.ref 254, PySem.Value.int 541 0, PySem.Value.int 148 0, PySem.Value.str (PySem.Str.ofString "/claim/cut.py") 542]) #[]) ::
  (nat_lit 256, fnO (l := (hB.drop 33)) rfl (fun a b c => PySem.Obj.mk (PySem.Value.type "function") Option.none (PySem.Data.func (PySem.FuncData.mk (PySem.Str.ofString "join_values") (PySem.Str.ofString "join_values") a (PySem.FuncBody.stmts b) c 3 [] PySem.Value.none PySem.Value.none PySem.Value.none (PySem.Value.str (PySem.Str.ofString "snobol.operators") 509) Option.none (PySem.Value.ref 255) PySem.Value.none 0)) #[])) ::
  (nat_lit 257, PySem.Obj.mk (PySem.Value.type "tuple") Option.none (PySem.Data.seq #[]) #[]) ::
  (nat_lit 259, PySem.Obj.mk (PySem.Value.type "tuple") Option.none (PySem.Data.seq #[PySem.Value.str (PySem.Str.ofString "text") 549, PySem.Value.str (PySem.Str.ofString "begin") 550, PySem.Value.str (PySem.Str.ofString "many") 551]) #[]) ::
  (nat_lit 260, PySem.Obj.mk (PySem.Value.type "tuple") Option.none (PySem.Data.seq #[]) #[]) ::
  (nat_lit 262, PySem.Obj.mk (PySem.Value.type "code") Option.none (PySem.Data.fields #[PySem.Value.str (PySem.Str.ofString "part_of") 546, PySem.Value.str (PySem.Str.ofString "part_of") 547, PySem.Value.str (PySem.Str.ofString "/claim/cut.py") 548, PySem.Value.int 159 0, PySem.Value.int 3 0, PySem.Value.int 0 0, PySem.Value.int 0 0, PySem.Value.int 3 0, PySem.Value.ref 257, PySem.Value.bool Bool.true, PySem.Value.int 181 0, PySem.Value.ref 258, PySem.Value.none, PySem.Value.ref 259, PySem.Value.ref 260, PySem.Value.ref 261, PySem.Value.int 552 0, PySem.Value.int 159 0, PySem.Value.str (PySem.Str.ofString "/claim/cut.py") 553]) #[]) ::
  (nat_lit 263, fnO (l := (hB.drop 35)) rfl (fun a b c => PySem.Obj.mk (PySem.Value.type "function") Option.none (PySem.Data.func (PySem.FuncData.mk (PySem.Str.ofString "part_of") (PySem.Str.ofString "part_of") a (PySem.FuncBody.stmts b) c 3 [] PySem.Value.none PySem.Value.none PySem.Value.none (PySem.Value.str (PySem.Str.ofString "snobol.strings") 544) Option.none (PySem.Value.ref 262) PySem.Value.none 0)) #[])) ::
  (nat_lit 264, PySem.Obj.mk (PySem.Value.type "tuple") Option.none (PySem.Data.seq #[]) #[]) ::
  (nat_lit 266, PySem.Obj.mk (PySem.Value.type "tuple") Option.none (PySem.Data.seq #[PySem.Value.str (PySem.Str.ofString "value") 558]) #[]) ::
  (nat_lit 267, PySem.Obj.mk (PySem.Value.type "tuple") Option.none (PySem.Data.seq #[]) #[]) ::
  (nat_lit 269, PySem.Obj.mk (PySem.Value.type "code") Option.none (PySem.Data.fields #[PySem.Value.str (PySem.Str.ofString "told_or_fail") 555, PySem.Value.str (PySem.Str.ofString "told_or_fail") 556, PySem.Value.str (PySem.Str.ofString "/claim/cut.py") 557, PySem.Value.int 165 0, PySem.Value.int 1 0, PySem.Value.int 0 0, PySem.Value.int 0 0, PySem.Value.int 3 0, PySem.Value.ref 264, PySem.Value.bool Bool.true, PySem.Value.int 181 0, PySem.Value.ref 265, PySem.Value.none, PySem.Value.ref 266, PySem.Value.ref 267, PySem.Value.ref 268, PySem.Value.int 559 0, PySem.Value.int 165 0, PySem.Value.str (PySem.Str.ofString "/claim/cut.py") 560]) #[]) ::
  (nat_lit 270, fnO (l := (hB.drop 36)) rfl (fun a b c => PySem.Obj.mk (PySem.Value.type "function") Option.none (PySem.Data.func (PySem.FuncData.mk (PySem.Str.ofString "told_or_fail") (PySem.Str.ofString "told_or_fail") a (PySem.FuncBody.stmts b) c 3 [] PySem.Value.none PySem.Value.none PySem.Value.none (PySem.Value.str (PySem.Str.ofString "snobol.strings") 544) Option.none (PySem.Value.ref 269) PySem.Value.none 0)) #[])) ::
  (nat_lit 271, PySem.Obj.mk (PySem.Value.type "tuple") Option.none (PySem.Data.seq #[]) #[]) ::
  (nat_lit 273, PySem.Obj.mk (PySem.Value.type "tuple") Option.none (PySem.Data.seq #[PySem.Value.str (PySem.Str.ofString "world") 565, PySem.Value.str (PySem.Str.ofString "args") 566]) #[]) ::
  (nat_lit 274, PySem.Obj.mk (PySem.Value.type "tuple") Option.none (PySem.Data.seq #[]) #[]) ::
  (nat_lit 276, PySem.Obj.mk (PySem.Value.type "code") Option.none (PySem.Data.fields #[PySem.Value.str (PySem.Str.ofString "text_size") 562, PySem.Value.str (PySem.Str.ofString "text_size") 563, PySem.Value.str (PySem.Str.ofString "/claim/cut.py") 564, PySem.Value.int 167 0, PySem.Value.int 2 0, PySem.Value.int 0 0, PySem.Value.int 0 0, PySem.Value.int 3 0, PySem.Value.ref 271, PySem.Value.bool Bool.true, PySem.Value.int 181 0, PySem.Value.ref 272, PySem.Value.none, PySem.Value.ref 273, PySem.Value.ref 274, PySem.Value.ref 275, PySem.Value.int 567 0, PySem.Value.int 167 0, PySem.Value.str (PySem.Str.ofString "/claim/cut.py") 568]) #[]) ::
  (nat_lit 277, fnO (l := (hB.drop 37)) rfl (fun a b c => PySem.Obj.mk (PySem.Value.type "function") Option.none (PySem.Data.func (PySem.FuncData.mk (PySem.Str.ofString "text_size") (PySem.Str.ofString "text_size") a (PySem.FuncBody.stmts b) c 3 [] PySem.Value.none PySem.Value.none PySem.Value.none (PySem.Value.str (PySem.Str.ofString "snobol.strings") 544) Option.none (PySem.Value.ref 276) PySem.Value.none 0)) #[])) ::
  (nat_lit 278, PySem.Obj.mk (PySem.Value.type "tuple") Option.none (PySem.Data.seq #[]) #[]) ::
  (nat_lit 280, PySem.Obj.mk (PySem.Value.type "tuple") Option.none (PySem.Data.seq #[PySem.Value.str (PySem.Str.ofString "world") 573, PySem.Value.str (PySem.Str.ofString "args") 574, PySem.Value.str (PySem.Str.ofString "text") 575, PySem.Value.str (PySem.Str.ofString "many") 576]) #[]) ::
  (nat_lit 281, PySem.Obj.mk (PySem.Value.type "tuple") Option.none (PySem.Data.seq #[]) #[]) ::
  (nat_lit 283, PySem.Obj.mk (PySem.Value.type "code") Option.none (PySem.Data.fields #[PySem.Value.str (PySem.Str.ofString "text_dupl") 570, PySem.Value.str (PySem.Str.ofString "text_dupl") 571, PySem.Value.str (PySem.Str.ofString "/claim/cut.py") 572, PySem.Value.int 169 0, PySem.Value.int 2 0, PySem.Value.int 0 0, PySem.Value.int 0 0, PySem.Value.int 3 0, PySem.Value.ref 278, PySem.Value.bool Bool.true, PySem.Value.int 181 0, PySem.Value.ref 279, PySem.Value.none, PySem.Value.ref 280, PySem.Value.ref 281, PySem.Value.ref 282, PySem.Value.int 577 0, PySem.Value.int 169 0, PySem.Value.str (PySem.Str.ofString "/claim/cut.py") 578]) #[]) ::
  (nat_lit 284, fnO (l := (hB.drop 38)) rfl (fun a b c => PySem.Obj.mk (PySem.Value.type "function") Option.none (PySem.Data.func (PySem.FuncData.mk (PySem.Str.ofString "text_dupl") (PySem.Str.ofString "text_dupl") a (PySem.FuncBody.stmts b) c 3 [] PySem.Value.none PySem.Value.none PySem.Value.none (PySem.Value.str (PySem.Str.ofString "snobol.strings") 544) Option.none (PySem.Value.ref 283) PySem.Value.none 0)) #[])) ::
  (nat_lit 285, PySem.Obj.mk (PySem.Value.type "tuple") Option.none (PySem.Data.seq #[]) #[]) ::
  (nat_lit 287, PySem.Obj.mk (PySem.Value.type "tuple") Option.none (PySem.Data.seq #[PySem.Value.str (PySem.Str.ofString "world") 583, PySem.Value.str (PySem.Str.ofString "args") 584]) #[]) ::
  (nat_lit 288, PySem.Obj.mk (PySem.Value.type "tuple") Option.none (PySem.Data.seq #[]) #[]) ::
  (nat_lit 290, PySem.Obj.mk (PySem.Value.type "code") Option.none (PySem.Data.fields #[PySem.Value.str (PySem.Str.ofString "text_reverse") 580, PySem.Value.str (PySem.Str.ofString "text_reverse") 581, PySem.Value.str (PySem.Str.ofString "/claim/cut.py") 582, PySem.Value.int 176 0, PySem.Value.int 2 0, PySem.Value.int 0 0, PySem.Value.int 0 0, PySem.Value.int 3 0, PySem.Value.ref 285, PySem.Value.bool Bool.true, PySem.Value.int 181 0, PySem.Value.ref 286, PySem.Value.none, PySem.Value.ref 287, PySem.Value.ref 288, PySem.Value.ref 289, PySem.Value.int 585 0, PySem.Value.int 176 0, PySem.Value.str (PySem.Str.ofString "/claim/cut.py") 586]) #[]) ::
  (nat_lit 291, fnO (l := (hB.drop 39)) rfl (fun a b c => PySem.Obj.mk (PySem.Value.type "function") Option.none (PySem.Data.func (PySem.FuncData.mk (PySem.Str.ofString "text_reverse") (PySem.Str.ofString "text_reverse") a (PySem.FuncBody.stmts b) c 3 [] PySem.Value.none PySem.Value.none PySem.Value.none (PySem.Value.str (PySem.Str.ofString "snobol.strings") 544) Option.none (PySem.Value.ref 290) PySem.Value.none 0)) #[])) ::
  (nat_lit 292, PySem.Obj.mk (PySem.Value.type "tuple") Option.none (PySem.Data.seq #[]) #[]) ::
  (nat_lit 294, PySem.Obj.mk (PySem.Value.type "tuple") Option.none (PySem.Data.seq #[PySem.Value.str (PySem.Str.ofString "world") 591, PySem.Value.str (PySem.Str.ofString "args") 592, PySem.Value.str (PySem.Str.ofString "text") 593, PySem.Value.str (PySem.Str.ofString "begin") 594]) #[]) ::
  (nat_lit 295, PySem.Obj.mk (PySem.Value.type "tuple") Option.none (PySem.Data.seq #[]) #[]) ::
  (nat_lit 297, PySem.Obj.mk (PySem.Value.type "code") Option.none (PySem.Data.fields #[PySem.Value.str (PySem.Str.ofString "text_substr") 588, PySem.Value.str (PySem.Str.ofString "text_substr") 589, PySem.Value.str (PySem.Str.ofString "/claim/cut.py") 590, PySem.Value.int 178 0, PySem.Value.int 2 0, PySem.Value.int 0 0, PySem.Value.int 0 0, PySem.Value.int 3 0, PySem.Value.ref 292, PySem.Value.bool Bool.true, PySem.Value.int 181 0, PySem.Value.ref 293, PySem.Value.none, PySem.Value.ref 294, PySem.Value.ref 295, PySem.Value.ref 296, PySem.Value.int 595 0, PySem.Value.int 178 0, PySem.Value.str (PySem.Str.ofString "/claim/cut.py") 596]) #[]) ::
  (nat_lit 298, fnO (l := (hB.drop 40)) rfl (fun a b c => PySem.Obj.mk (PySem.Value.type "function") Option.none (PySem.Data.func (PySem.FuncData.mk (PySem.Str.ofString "text_substr") (PySem.Str.ofString "text_substr") a (PySem.FuncBody.stmts b) c 3 [] PySem.Value.none PySem.Value.none PySem.Value.none (PySem.Value.str (PySem.Str.ofString "snobol.strings") 544) Option.none (PySem.Value.ref 297) PySem.Value.none 0)) #[])) ::
  (nat_lit 299, PySem.Obj.mk (PySem.Value.type "tuple") Option.none (PySem.Data.seq #[]) #[]) ::
  (nat_lit 301, PySem.Obj.mk (PySem.Value.type "tuple") Option.none (PySem.Data.seq #[PySem.Value.str (PySem.Str.ofString "world") 601, PySem.Value.str (PySem.Str.ofString "args") 602, PySem.Value.str (PySem.Str.ofString "one") 603]) #[]) ::
  (nat_lit 302, PySem.Obj.mk (PySem.Value.type "tuple") Option.none (PySem.Data.seq #[]) #[]) ::
  (nat_lit 304, PySem.Obj.mk (PySem.Value.type "code") Option.none (PySem.Data.fields #[PySem.Value.str (PySem.Str.ofString "whole_remdr") 598, PySem.Value.str (PySem.Str.ofString "whole_remdr") 599, PySem.Value.str (PySem.Str.ofString "/claim/cut.py") 600, PySem.Value.int 181 0, PySem.Value.int 2 0, PySem.Value.int 0 0, PySem.Value.int 0 0, PySem.Value.int 3 0, PySem.Value.ref 299, PySem.Value.bool Bool.true, PySem.Value.int 181 0, PySem.Value.ref 300, PySem.Value.none, PySem.Value.ref 301, PySem.Value.ref 302, PySem.Value.ref 303, PySem.Value.int 604 0, PySem.Value.int 181 0, PySem.Value.str (PySem.Str.ofString "/claim/cut.py") 605]) #[]) ::
  (nat_lit 305, fnO (l := (hB.drop 41)) rfl (fun a b c => PySem.Obj.mk (PySem.Value.type "function") Option.none (PySem.Data.func (PySem.FuncData.mk (PySem.Str.ofString "whole_remdr") (PySem.Str.ofString "whole_remdr") a (PySem.FuncBody.stmts b) c 3 [] PySem.Value.none PySem.Value.none PySem.Value.none (PySem.Value.str (PySem.Str.ofString "snobol.strings") 544) Option.none (PySem.Value.ref 304) PySem.Value.none 0)) #[])) ::
  (nat_lit 306, PySem.Obj.mk (PySem.Value.type "tuple") Option.none (PySem.Data.seq #[]) #[]) ::
  (nat_lit 309, PySem.Obj.mk (PySem.Value.type "code") Option.none (PySem.Data.fields #[PySem.Value.str (PySem.Str.ofString "_law_is_even") 609, PySem.Value.str (PySem.Str.ofString "_law_is_even") 610, PySem.Value.str (PySem.Str.ofString "/claim/cut.py") 611, PySem.Value.int 185 0, PySem.Value.int 2 0, PySem.Value.int 0 0, PySem.Value.int 0 0, PySem.Value.int 3 0, PySem.Value.ref 306, PySem.Value.bool Bool.true, PySem.Value.int 181 0, PySem.Value.ref 307, PySem.Value.none, PySem.Value.none, PySem.Value.none, PySem.Value.ref 308, PySem.Value.int 612 0, PySem.Value.int 185 0, PySem.Value.str (PySem.Str.ofString "/claim/cut.py") 613]) #[]) ::
  (nat_lit 310, fnO (l := (hB.drop 43)) rfl (fun a b c => PySem.Obj.mk (PySem.Value.type "function") Option.none (PySem.Data.func (PySem.FuncData.mk (PySem.Str.ofString "_law_is_even") (PySem.Str.ofString "_law_is_even") a (PySem.FuncBody.stmts b) c 3 [] PySem.Value.none PySem.Value.none PySem.Value.none (PySem.Value.str (PySem.Str.ofString "law_xm0950_01") 607) Option.none (PySem.Value.ref 309) PySem.Value.none 0)) #[])) ::
  (nat_lit 311, PySem.Obj.mk (PySem.Value.type "tuple") Option.none (PySem.Data.seq #[]) #[]) ::
  (nat_lit 314, PySem.Obj.mk (PySem.Value.type "code") Option.none (PySem.Data.fields #[PySem.Value.str (PySem.Str.ofString "law") 615, PySem.Value.str (PySem.Str.ofString "law") 616, PySem.Value.str (PySem.Str.ofString "/claim/cut.py") 617, PySem.Value.int 192 0, PySem.Value.int 1 0, PySem.Value.int 0 0, PySem.Value.int 0 0, PySem.Value.int 3 0, PySem.Value.ref 311, PySem.Value.bool Bool.true, PySem.Value.int 181 0, PySem.Value.ref 312, PySem.Value.none, PySem.Value.none, PySem.Value.none, PySem.Value.ref 313, PySem.Value.int 618 0, PySem.Value.int 192 0, PySem.Value.str (PySem.Str.ofString "/claim/cut.py") 619]) #[]) :: []
/-- the text without the names that are not pinned -/
noncomputable def hv : Program := { PySem.Challenge.pw_xm0950_01 with main := { PySem.Challenge.pw_xm0950_01.main with body := (hB.drop 1).take 14 ++ ((hB.drop 16).take 10 ++ ((hB.drop 27).take 2 ++ ((hB.drop 30).take 4 ++ ((hB.drop 35).take 7 ++ hB.drop 43)))) } }
noncomputable abbrev hL : List Addr := [2, 3, 15, 18, 23, 24, 25, 27, 28, 30, 32, 33, 34, 35, 45, 46, 47, 48, 49, 59, 61, 62, 64, 66, 67, 68, 69, 70, 80, 82, 83, 85, 87, 88, 89, 90, 91, 94, 96, 97, 99, 100, 101, 103, 104, 106, 107, 108, 110, 111, 113, 114, 115, 117, 118, 120, 122, 124, 125, 127, 129, 131, 132, 134, 135, 136, 138, 139, 141, 142, 143, 145, 146, 148, 149, 150, 152, 153, 155, 156, 157, 159, 160, 162, 163, 164, 165, 167, 168, 170, 172, 174, 175, 177, 179, 181, 182, 184, 186, 188, 189, 191, 193, 195, 196, 198, 207, 208, 210, 211, 213, 214, 215, 216, 217, 218, 219, 222, 224, 225, 227, 228, 229, 231, 232, 234, 235, 236, 238, 239, 241, 242, 243, 245, 246, 248, 250, 252, 253, 255, 256, 257, 259, 260, 262, 263, 264, 266, 267, 269, 270, 271, 273, 274, 276, 277, 278, 280, 281, 283, 284, 285, 287, 288, 290, 291, 292, 294, 295, 297, 298, 299, 301, 302, 304, 305, 306, 309, 310, 311, 314]
theorem hKe : ∀ P, hL = (hK P).map (·.1) := fun _ => by kernel_rfl
theorem hsaid : PySem.Challenge.rw_xm0950_01.wellSaid = true := (congrFun Fast.te9446332074065402090 PySem.Challenge.rw_xm0950_01).trans (by kernel_rfl)
/-- the top's run over a tree of objects, by the library's quick words -/
noncomputable def runQ (p : Program) (w : World) (n₀ : Nat) (ann : Option Value) (n : Nat) : SharedT → Thread → Option SharedT :=
  @Nat.rec (fun _ => SharedT → Thread → Option SharedT) (fun _ _ => none) (fun _ ih s t => match through t with
    | true => some s
    | false => match Fast.tw6613529449190102663 n₀ ann t with
      | false => none
      | true => match Fast.tw10156331382660048174 (Fast.tw11892475500146522536 Fast.tw14364793385576792824) p w s t with
        | some (s', t') => ih s' t'
        | none => none) n
theorem runQ_of {p : Program} {w : World} {n₀ : Nat} {ann : Option Value} : ∀ {n : Nat} {s s' : SharedT} {t : Thread}, runQ p w n₀ ann n s t = some s' → topRun treeTable p w n₀ ann n s.abs t = some s'.abs
  | 0, _, _, _, h => by cases h
  | n + 1, s, s', t, h => by
    have h : (match through t with
      | true => some s
      | false => match Fast.tw6613529449190102663 n₀ ann t with
        | false => none
        | true => match Fast.tw10156331382660048174 (Fast.tw11892475500146522536 Fast.tw14364793385576792824) p w s t with
          | some (s', t') => runQ p w n₀ ann n s' t'
          | none => none) = some s' := h
    rw [← Fast.te6613529449190102663, ← Fast.te10156331382660048174, ← Fast.te11892475500146522536, ← Fast.te14364793385576792824] at h
    unfold topRun
    cases ht : through t with
    | true => rw [ht] at h; cases h; rfl
    | false =>
      rw [ht] at h
      cases hk : stepOk n₀ ann t with
      | false => rw [hk] at h; cases h
      | true =>
        rw [hk] at h
        cases hs : stepT (denote treeTable) p w s t with
        | none => rw [hs] at h; cases h
        | some r => obtain ⟨s₂, t₂⟩ := r; rw [hs] at h; rw [stepT_spec hs]; exact runQ_of h
/-- the objects that stand before the text, as a tree -/
noncomputable def bootT (P : Params) : BT :=
  .node (boot_o_0 P) (.node (boot_o_1 P) (.node (boot_o_3 P) (.node (boot_o_7 P) .nil .nil) .nil) (.node (boot_o_5 P) (.node (boot_o_9 P) .nil .nil) .nil)) (.node (boot_o_2 P) (.node (boot_o_4 P) (.node (boot_o_8 P) .nil .nil) .nil) (.node (boot_o_6 P) (.node (boot_o_10 P) .nil .nil) .nil))
theorem hopen : ∀ w : World, (fencedOpening treeTable PySem.Challenge.rw_xm0950_01.row.prog w 4348).map (fun s => (s.heap, s.gens, s.drawn, s.toks)) = some (absHeap (bootT w.params) 11 {}, Array.mk [], boot_drawn, boot_toks) :=
  fun w => (boot_open (by kernel_rfl) (by decide +kernel) (fun s => by kernel_rfl) w).trans (by kernel_rfl)
theorem hsize : ∀ w : World, ((absHeap (bootT w.params) 11 {}).isNs mainGlobals && (Array.mk [] : Array GenState).size == 0, (absHeap (bootT w.params) 11 {}).objs.size, (absHeap (bootT w.params) 11 {}).nsMap mainGlobals "__annotations__") = (true, 11, some (.ref 6)) := fun w => by kernel_rfl
/-! the objects behind the text -/
noncomputable def e2 (P : Params) : Obj := Obj.mk Value.none Option.none (Data.dict #[DictEntry.mk (PyData.keyHash P (Str.ofString "type.__subclasses__.Exception.0")) (Value.str (Str.ofString "type.__subclasses__.Exception.0") 219) (Value.int 34 0), DictEntry.mk (PyData.keyHash P (Str.ofString "type.__subclasses__.Exception.n")) (Value.str (Str.ofString "type.__subclasses__.Exception.n") 220) (Value.int 1 0)] 2) #[]
noncomputable def e3 (P : Params) : Obj := Obj.mk (Value.type "dict") Option.none (Data.dict #[DictEntry.mk (PyData.keyHash P (Str.ofString "__name__")) (Value.str (Str.ofString "__name__") 165) (Value.str (Str.ofString "law_xm0950_01") 607), DictEntry.mk (PyData.keyHash P (Str.ofString "__doc__")) (Value.str (Str.ofString "__doc__") 166) Value.none, DictEntry.mk (PyData.keyHash P (Str.ofString "__package__")) (Value.str (Str.ofString "__package__") 167) Value.none, DictEntry.mk (PyData.keyHash P (Str.ofString "__loader__")) (Value.str (Str.ofString "__loader__") 168) (Value.builtin "__main__.__loader__#opaque"), DictEntry.mk (PyData.keyHash P (Str.ofString "__spec__")) (Value.str (Str.ofString "__spec__") 169) Value.none, DictEntry.mk (PyData.keyHash P (Str.ofString "__annotations__")) (Value.str (Str.ofString "__annotations__") 170) (Value.ref 6), DictEntry.mk (PyData.keyHash P (Str.ofString "__builtins__")) (Value.str (Str.ofString "__builtins__") 171) (Value.ref 4), DictEntry.mk (PyData.keyHash P (Str.ofString "__file__")) (Value.str (Str.ofString "__file__") 173) (Value.str (Str.ofString "/claim/cut.py") 172), DictEntry.mk (PyData.keyHash P (Str.ofString "__cached__")) (Value.str (Str.ofString "__cached__") 174) Value.none, DictEntry.mk (PyData.keyHash P (Str.ofString "SnobolError")) (Value.str (Str.ofString "SnobolError") 222) (Value.ref 34), DictEntry.mk (PyData.keyHash P (Str.ofString "Failure")) (Value.str (Str.ofString "Failure") 242) (Value.ref 47), DictEntry.mk (PyData.keyHash P (Str.ofString "Pattern")) (Value.str (Str.ofString "Pattern") 271) (Value.ref 68), DictEntry.mk (PyData.keyHash P (Str.ofString "Delayed")) (Value.str (Str.ofString "Delayed") 300) (Value.ref 89), DictEntry.mk (PyData.keyHash P (Str.ofString "is_null")) (Value.str (Str.ofString "is_null") 307) (Value.ref 100), DictEntry.mk (PyData.keyHash P (Str.ofString "is_plain")) (Value.str (Str.ofString "is_plain") 314) (Value.ref 107), DictEntry.mk (PyData.keyHash P (Str.ofString "fits")) (Value.str (Str.ofString "fits") 322) (Value.ref 114), DictEntry.mk (PyData.keyHash P (Str.ofString "whole_of_text")) (Value.str (Str.ofString "whole_of_text") 333) (Value.ref 121), DictEntry.mk (PyData.keyHash P (Str.ofString "text_of_whole")) (Value.str (Str.ofString "text_of_whole") 342) (Value.ref 128), DictEntry.mk (PyData.keyHash P (Str.ofString "to_whole")) (Value.str (Str.ofString "to_whole") 350) (Value.ref 135), DictEntry.mk (PyData.keyHash P (Str.ofString "to_text")) (Value.str (Str.ofString "to_text") 357) (Value.ref 142), DictEntry.mk (PyData.keyHash P (Str.ofString "need_whole")) (Value.str (Str.ofString "need_whole") 366) (Value.ref 149), DictEntry.mk (PyData.keyHash P (Str.ofString "need_text")) (Value.str (Str.ofString "need_text") 374) (Value.ref 156), DictEntry.mk (PyData.keyHash P (Str.ofString "checked_whole")) (Value.str (Str.ofString "checked_whole") 382) (Value.ref 163), DictEntry.mk (PyData.keyHash P (Str.ofString "NULL_NODE")) (Value.str (Str.ofString "NULL_NODE") 387) (Value.ref 164), DictEntry.mk (PyData.keyHash P (Str.ofString "MOST_PARTS")) (Value.str (Str.ofString "MOST_PARTS") 389) (Value.int 600 388), DictEntry.mk (PyData.keyHash P (Str.ofString "MOST_DEPTH")) (Value.str (Str.ofString "MOST_DEPTH") 391) (Value.int 100 390), DictEntry.mk (PyData.keyHash P (Str.ofString "MOST_SIGNS")) (Value.str (Str.ofString "MOST_SIGNS") 393) (Value.int 20000 392), DictEntry.mk (PyData.keyHash P (Str.ofString "TOO_GREAT")) (Value.str (Str.ofString "TOO_GREAT") 395) (Value.int 23 394), DictEntry.mk (PyData.keyHash P (Str.ofString "is_null_node")) (Value.str (Str.ofString "is_null_node") 402) (Value.ref 171), DictEntry.mk (PyData.keyHash P (Str.ofString "joined")) (Value.str (Str.ofString "joined") 410) (Value.ref 178), DictEntry.mk (PyData.keyHash P (Str.ofString "pattern_of")) (Value.str (Str.ofString "pattern_of") 418) (Value.ref 185), DictEntry.mk (PyData.keyHash P (Str.ofString "parts_of")) (Value.str (Str.ofString "parts_of") 425) (Value.ref 192), DictEntry.mk (PyData.keyHash P (Str.ofString "checked_node")) (Value.str (Str.ofString "checked_node") 437) (Value.ref 199), DictEntry.mk (PyData.keyHash P (Str.ofString "World")) (Value.str (Str.ofString "World") 500) (Value.ref 217), DictEntry.mk (PyData.keyHash P (Str.ofString "check_length")) (Value.str (Str.ofString "check_length") 508) (Value.ref 228), DictEntry.mk (PyData.keyHash P (Str.ofString "divided")) (Value.str (Str.ofString "divided") 519) (Value.ref 235), DictEntry.mk (PyData.keyHash P (Str.ofString "remainder")) (Value.str (Str.ofString "remainder") 527) (Value.ref 242), DictEntry.mk (PyData.keyHash P (Str.ofString "is_part")) (Value.str (Str.ofString "is_part") 534) (Value.ref 249), DictEntry.mk (PyData.keyHash P (Str.ofString "join_values")) (Value.str (Str.ofString "join_values") 543) (Value.ref 256), DictEntry.mk (PyData.keyHash P (Str.ofString "part_of")) (Value.str (Str.ofString "part_of") 554) (Value.ref 263), DictEntry.mk (PyData.keyHash P (Str.ofString "told_or_fail")) (Value.str (Str.ofString "told_or_fail") 561) (Value.ref 270), DictEntry.mk (PyData.keyHash P (Str.ofString "text_size")) (Value.str (Str.ofString "text_size") 569) (Value.ref 277), DictEntry.mk (PyData.keyHash P (Str.ofString "text_dupl")) (Value.str (Str.ofString "text_dupl") 579) (Value.ref 284), DictEntry.mk (PyData.keyHash P (Str.ofString "text_reverse")) (Value.str (Str.ofString "text_reverse") 587) (Value.ref 291), DictEntry.mk (PyData.keyHash P (Str.ofString "text_substr")) (Value.str (Str.ofString "text_substr") 597) (Value.ref 298), DictEntry.mk (PyData.keyHash P (Str.ofString "whole_remdr")) (Value.str (Str.ofString "whole_remdr") 606) (Value.ref 305), DictEntry.mk (PyData.keyHash P (Str.ofString "_law_is_even")) (Value.str (Str.ofString "_law_is_even") 614) (Value.ref 310), DictEntry.mk (PyData.keyHash P (Str.ofString "law")) (Value.str (Str.ofString "law") 620) (Value.ref 315)] 48) #[]
noncomputable def e11 (_ : Params) : Obj := Obj.mk (Value.type "tuple") Option.none (Data.seq #[]) #[]
noncomputable def e12 (_ : Params) : Obj := Obj.mk Value.none Option.none (Data.fields (Array.mk (Value.int 2 0 :: Value.int 0 0 :: Value.ref 21 :: Value.int 8 0 :: Value.int 0 0 :: Value.ref 43 :: Value.int 10 0 :: Value.int 0 0 :: Value.ref 57 :: Value.int 14 0 :: Value.int 0 0 :: Value.ref 78 :: Value.int 18 0 :: Value.int 0 0 :: Value.ref 99 :: Value.int 20 0 :: Value.int 0 0 :: Value.ref 106 :: Value.int 22 0 :: Value.int 0 0 :: Value.ref 113 :: Value.int 24 0 :: Value.int 0 0 :: Value.ref 120 :: Value.int 37 0 :: Value.int 0 0 :: Value.ref 127 :: Value.int 43 0 :: Value.int 0 0 :: Value.ref 134 :: Value.int 47 0 :: Value.int 0 0 :: Value.ref 141 :: Value.int 51 0 :: Value.int 0 0 :: Value.ref 148 :: Value.int 56 0 :: Value.int 0 0 :: Value.ref 155 :: Value.int 61 0 :: Value.int 0 0 :: Value.ref 162 :: Value.int 71 0 :: Value.int 0 0 :: Value.ref 170 :: Value.int 73 0 :: Value.int 0 0 :: Value.ref 177 :: Value.int 81 0 :: Value.int 0 0 :: Value.ref 184 :: Value.int 90 0 :: Value.int 0 0 :: Value.ref 191 :: Value.int 94 0 :: Value.int 0 0 :: Value.ref 198 :: Value.int 105 0 :: Value.int 0 0 :: Value.ref 205 :: Value.int 134 0 :: Value.int 0 0 :: Value.ref 227 :: Value.int 139 0 :: Value.int 0 0 :: Value.ref 234 :: Value.int 144 0 :: Value.int 0 0 :: Value.ref 241 :: Value.int 146 0 :: Value.int 0 0 :: Value.ref 248 :: Value.int 148 0 :: Value.int 0 0 :: Value.ref 255 :: Value.int 159 0 :: Value.int 0 0 :: Value.ref 262 :: Value.int 165 0 :: Value.int 0 0 :: Value.ref 269 :: Value.int 167 0 :: Value.int 0 0 :: Value.ref 276 :: Value.int 169 0 :: Value.int 0 0 :: Value.ref 283 :: Value.int 176 0 :: Value.int 0 0 :: Value.ref 290 :: Value.int 178 0 :: Value.int 0 0 :: Value.ref 297 :: Value.int 181 0 :: Value.int 0 0 :: Value.ref 304 :: Value.int 185 0 :: Value.int 0 0 :: Value.ref 309 :: Value.int 192 0 :: Value.int 0 0 :: Value.ref 314 :: []))) #[]
noncomputable def e13 (_ : Params) : Obj := Obj.mk (Value.type "code") Option.none (Data.fields #[Value.str (Str.ofString "<module>") 182, Value.str (Str.ofString "<module>") 183, Value.str (Str.ofString "/claim/cut.py") 184, Value.int 1 0, Value.int 0 0, Value.int 0 0, Value.int 0 0, Value.int 0 0, Value.ref 11, Value.bool Bool.false, Value.int 181 0, Value.ref 12, Value.none, Value.none, Value.none, Value.none, Value.int 185 0, Value.int 1 0, Value.str (Str.ofString "/claim/cut.py") 186]) #[]
noncomputable def e14 (_ : Params) : Obj := Obj.mk (Value.type "frame") Option.none Data.plain #[Option.some (Value.ref 13), Option.some (Value.ref 3), Option.some (Value.ref 3), Option.none, Option.some (Value.str (Str.ofString "__main__") 164), Option.none, Option.some (Value.ref 0)]
noncomputable def e15 (_ : Params) : Obj := Obj.mk (Value.type "tuple") Option.none (Data.seq #[Value.type "Exception"]) #[]
noncomputable def e16 (_ : Params) : Obj := Obj.mk (Value.type "builtin_function_or_method") Option.none (Data.fields #[Value.builtin "type.__prepare__", Value.type "type"]) #[]
noncomputable def e17 (P : Params) : Obj := Obj.mk (Value.type "dict") Option.none (Data.dict #[DictEntry.mk (PyData.keyHash P (Str.ofString "__module__")) (Value.str (Str.ofString "__module__") 196) (Value.str (Str.ofString "snobol.values") 187), DictEntry.mk (PyData.keyHash P (Str.ofString "__qualname__")) (Value.str (Str.ofString "__qualname__") 198) (Value.str (Str.ofString "SnobolError") 197), DictEntry.mk (PyData.keyHash P (Str.ofString "__firstlineno__")) (Value.str (Str.ofString "__firstlineno__") 200) (Value.int 2 199), DictEntry.mk (PyData.keyHash P (Str.ofString "__init__")) (Value.str (Str.ofString "__init__") 211) (Value.ref 31), DictEntry.mk (PyData.keyHash P (Str.ofString "__static_attributes__")) (Value.str (Str.ofString "__static_attributes__") 214) (Value.ref 32), DictEntry.mk (PyData.keyHash P (Str.ofString "__classcell__")) (Value.str (Str.ofString "__classcell__") 215) (Value.ref 18)] 6) #[]
noncomputable def e18 (_ : Params) : Obj := Obj.mk (Value.type "cell") Option.none (Data.cell (Option.some (Value.ref 34))) #[]
noncomputable def e19 (_ : Params) : Obj := Obj.mk (Value.type "tuple") Option.none (Data.seq #[]) #[]
noncomputable def e20 (_ : Params) : Obj := Obj.mk Value.none Option.none (Data.fields #[Value.int 4 0, Value.int 4 0, Value.ref 30]) #[]
noncomputable def e21 (_ : Params) : Obj := Obj.mk (Value.type "code") Option.none (Data.fields #[Value.str (Str.ofString "SnobolError") 191, Value.str (Str.ofString "SnobolError") 192, Value.str (Str.ofString "/claim/cut.py") 193, Value.int 2 0, Value.int 0 0, Value.int 0 0, Value.int 0 0, Value.int 0 0, Value.ref 19, Value.bool Bool.false, Value.int 181 0, Value.ref 20, Value.none, Value.none, Value.none, Value.none, Value.int 194 0, Value.int 2 0, Value.str (Str.ofString "/claim/cut.py") 195]) #[]
noncomputable def e22 (_ : Params) : Obj := Obj.mk (Value.type "frame") Option.none Data.plain #[Option.some (Value.ref 21), Option.some (Value.ref 3), Option.some (Value.ref 17), Option.none, Option.some (Value.str (Str.ofString "snobol.values") 187), Option.none, Option.some (Value.ref 0)]
noncomputable def e23 (_ : Params) : Obj := Obj.mk (Value.type "tuple") Option.none (Data.seq #[Value.str (Str.ofString "") 201]) #[]
noncomputable def e24 (_ : Params) : Obj := Obj.mk (Value.type "tuple") Option.none (Data.seq #[Value.ref 18]) #[]
noncomputable def e25 (_ : Params) : Obj := Obj.mk (Value.type "tuple") Option.none (Data.seq #[Value.str (Str.ofString "__class__") 205]) #[]
noncomputable def e26 (_ : Params) : Obj := Obj.mk Value.none Option.none (Data.fields #[]) #[]
noncomputable def e27 (_ : Params) : Obj := Obj.mk (Value.type "tuple") Option.none (Data.seq #[Value.str (Str.ofString "self") 206, Value.str (Str.ofString "number") 207, Value.str (Str.ofString "told") 208]) #[]
noncomputable def e28 (_ : Params) : Obj := Obj.mk (Value.type "tuple") Option.none (Data.seq #[]) #[]
noncomputable def e29 (_ : Params) : Obj := fnO (l := (clsB (hB.drop 1))) rfl (fun a b c => Obj.mk Value.none Option.none (Data.func (PySem.FuncData.mk (Str.ofString "__init__") (Str.ofString "SnobolError.__init__") a (PySem.FuncBody.stmts b) c 0 [] Value.none Value.none Value.none Value.none Option.none Value.none Value.none 0)) #[])
noncomputable def e30 (_ : Params) : Obj := Obj.mk (Value.type "code") Option.none (Data.fields #[Value.str (Str.ofString "__init__") 202, Value.str (Str.ofString "SnobolError.__init__") 203, Value.str (Str.ofString "/claim/cut.py") 204, Value.int 4 0, Value.int 3 0, Value.int 0 0, Value.int 0 0, Value.int 3 0, Value.ref 25, Value.bool Bool.true, Value.int 181 0, Value.ref 26, Value.none, Value.ref 27, Value.ref 28, Value.ref 29, Value.int 209 0, Value.int 4 0, Value.str (Str.ofString "/claim/cut.py") 210]) #[]
noncomputable def e31 (_ : Params) : Obj := fnO (l := (clsB (hB.drop 1))) rfl (fun a b c => Obj.mk (Value.type "function") Option.none (Data.func (PySem.FuncData.mk (Str.ofString "__init__") (Str.ofString "SnobolError.__init__") a (PySem.FuncBody.stmts b) c 3 [(Str.ofString "__class__", 18)] (Value.ref 23) Value.none Value.none (Value.str (Str.ofString "snobol.values") 187) Option.none (Value.ref 30) (Value.ref 24) 0)) #[])
noncomputable def e32 (_ : Params) : Obj := Obj.mk (Value.type "tuple") Option.none (Data.seq #[Value.str (Str.ofString "number") 212, Value.str (Str.ofString "told") 213]) #[]
noncomputable def e33 (P : Params) : Obj := Obj.mk (Value.type "dict") Option.none (Data.dict #[DictEntry.mk (PyData.keyHash P (Str.ofString "__module__")) (Value.str (Str.ofString "__module__") 196) (Value.str (Str.ofString "snobol.values") 187), DictEntry.mk (PyData.keyHash P (Str.ofString "__firstlineno__")) (Value.str (Str.ofString "__firstlineno__") 200) (Value.int 2 199), DictEntry.mk (PyData.keyHash P (Str.ofString "__init__")) (Value.str (Str.ofString "__init__") 211) (Value.ref 31), DictEntry.mk (PyData.keyHash P (Str.ofString "__static_attributes__")) (Value.str (Str.ofString "__static_attributes__") 214) (Value.ref 32), DictEntry.mk (PyData.keyHash P (Str.ofString "__weakref__")) (Value.str (Str.ofString "__weakref__") 217) (Value.ref 35), DictEntry.mk (PyData.keyHash P (Str.ofString "__doc__")) (Value.str (Str.ofString "__doc__") 218) Value.none] 4) #[]
noncomputable def e34 (_ : Params) : Obj := Obj.mk (Value.type "type") Option.none (Data.cls (PySem.ClassData.mk (Str.ofString "SnobolError") [Value.type "Exception"] [Value.ref 34, Value.type "Exception", Value.type "BaseException", Value.type "object"] 33 (Str.ofString "SnobolError") Bool.true [] [] Bool.false Option.none Bool.false)) #[Option.some (Value.ref 15), Option.none, Option.some (Value.str (Str.ofString "SnobolError") 189), Option.some (Value.str (Str.ofString "SnobolError") 197), Option.some (Value.builtin "Exception.__new__"), Option.some (Value.bool Bool.true)]
noncomputable def e35 (_ : Params) : Obj := Obj.mk (Value.type "getset_descriptor") Option.none (Data.fields #[Value.str (Str.ofString "__weakref__") 216, Value.ref 34, Value.builtin "ExceptionGroup.__weakref__", Value.none]) #[]
noncomputable def e36 (_ : Params) : Obj := Obj.mk (Value.type "super") Option.none (Data.fields #[Value.ref 34, Value.ref 34, Value.ref 34]) #[]
noncomputable def e37 (_ : Params) : Obj := Obj.mk (Value.type "builtin_function_or_method") Option.none (Data.fields #[Value.builtin "object.__init_subclass__", Value.ref 34]) #[]
noncomputable def e38 (_ : Params) : Obj := Obj.mk (Value.type "tuple") Option.none (Data.seq #[]) #[]
noncomputable def e39 (_ : Params) : Obj := Obj.mk (Value.type "builtin_function_or_method") Option.none (Data.fields #[Value.builtin "type.__prepare__", Value.type "type"]) #[]
noncomputable def e40 (P : Params) : Obj := Obj.mk (Value.type "dict") Option.none (Data.dict #[DictEntry.mk (PyData.keyHash P (Str.ofString "__module__")) (Value.str (Str.ofString "__module__") 230) (Value.str (Str.ofString "snobol.values") 187), DictEntry.mk (PyData.keyHash P (Str.ofString "__qualname__")) (Value.str (Str.ofString "__qualname__") 232) (Value.str (Str.ofString "Failure") 231), DictEntry.mk (PyData.keyHash P (Str.ofString "__firstlineno__")) (Value.str (Str.ofString "__firstlineno__") 234) (Value.int 8 233), DictEntry.mk (PyData.keyHash P (Str.ofString "__static_attributes__")) (Value.str (Str.ofString "__static_attributes__") 235) (Value.ref 45)] 4) #[]
noncomputable def e41 (_ : Params) : Obj := Obj.mk (Value.type "tuple") Option.none (Data.seq #[]) #[]
noncomputable def e42 (_ : Params) : Obj := Obj.mk Value.none Option.none (Data.fields #[]) #[]
noncomputable def e43 (_ : Params) : Obj := Obj.mk (Value.type "code") Option.none (Data.fields #[Value.str (Str.ofString "Failure") 225, Value.str (Str.ofString "Failure") 226, Value.str (Str.ofString "/claim/cut.py") 227, Value.int 8 0, Value.int 0 0, Value.int 0 0, Value.int 0 0, Value.int 0 0, Value.ref 41, Value.bool Bool.false, Value.int 181 0, Value.ref 42, Value.none, Value.none, Value.none, Value.none, Value.int 228 0, Value.int 8 0, Value.str (Str.ofString "/claim/cut.py") 229]) #[]
noncomputable def e44 (_ : Params) : Obj := Obj.mk (Value.type "frame") Option.none Data.plain #[Option.some (Value.ref 43), Option.some (Value.ref 3), Option.some (Value.ref 40), Option.none, Option.some (Value.str (Str.ofString "snobol.values") 187), Option.none, Option.some (Value.ref 0)]
noncomputable def e45 (_ : Params) : Obj := Obj.mk (Value.type "tuple") Option.none (Data.seq #[]) #[]
noncomputable def e46 (P : Params) : Obj := Obj.mk (Value.type "dict") Option.none (Data.dict #[DictEntry.mk (PyData.keyHash P (Str.ofString "__module__")) (Value.str (Str.ofString "__module__") 230) (Value.str (Str.ofString "snobol.values") 187), DictEntry.mk (PyData.keyHash P (Str.ofString "__firstlineno__")) (Value.str (Str.ofString "__firstlineno__") 234) (Value.int 8 233), DictEntry.mk (PyData.keyHash P (Str.ofString "__static_attributes__")) (Value.str (Str.ofString "__static_attributes__") 235) (Value.ref 45), DictEntry.mk (PyData.keyHash P (Str.ofString "__dict__")) (Value.str (Str.ofString "__dict__") 237) (Value.ref 48), DictEntry.mk (PyData.keyHash P (Str.ofString "__weakref__")) (Value.str (Str.ofString "__weakref__") 239) (Value.ref 49), DictEntry.mk (PyData.keyHash P (Str.ofString "__doc__")) (Value.str (Str.ofString "__doc__") 240) Value.none] 4) #[]
noncomputable def e47 (_ : Params) : Obj := Obj.mk (Value.type "type") Option.none (Data.cls (PySem.ClassData.mk (Str.ofString "Failure") [Value.type "object"] [Value.ref 47, Value.type "object"] 46 (Str.ofString "Failure") Bool.true [] [] Bool.false Option.none Bool.false)) #[Option.none, Option.none, Option.some (Value.str (Str.ofString "Failure") 223), Option.some (Value.str (Str.ofString "Failure") 231), Option.some (Value.builtin "object.__new__"), Option.some (Value.bool Bool.true)]
noncomputable def e48 (_ : Params) : Obj := Obj.mk (Value.type "getset_descriptor") Option.none (Data.fields #[Value.str (Str.ofString "__dict__") 236, Value.ref 47, Value.builtin "function.__dict__", Value.builtin "function.__dict__#set"]) #[]
noncomputable def e49 (_ : Params) : Obj := Obj.mk (Value.type "getset_descriptor") Option.none (Data.fields #[Value.str (Str.ofString "__weakref__") 238, Value.ref 47, Value.builtin "ExceptionGroup.__weakref__", Value.none]) #[]
noncomputable def e50 (_ : Params) : Obj := Obj.mk (Value.type "super") Option.none (Data.fields #[Value.ref 47, Value.ref 47, Value.ref 47]) #[]
noncomputable def e51 (_ : Params) : Obj := Obj.mk (Value.type "builtin_function_or_method") Option.none (Data.fields #[Value.builtin "object.__init_subclass__", Value.ref 47]) #[]
noncomputable def e52 (_ : Params) : Obj := Obj.mk (Value.type "tuple") Option.none (Data.seq #[]) #[]
noncomputable def e53 (_ : Params) : Obj := Obj.mk (Value.type "builtin_function_or_method") Option.none (Data.fields #[Value.builtin "type.__prepare__", Value.type "type"]) #[]
noncomputable def e54 (P : Params) : Obj := Obj.mk (Value.type "dict") Option.none (Data.dict #[DictEntry.mk (PyData.keyHash P (Str.ofString "__module__")) (Value.str (Str.ofString "__module__") 250) (Value.str (Str.ofString "snobol.values") 187), DictEntry.mk (PyData.keyHash P (Str.ofString "__qualname__")) (Value.str (Str.ofString "__qualname__") 252) (Value.str (Str.ofString "Pattern") 251), DictEntry.mk (PyData.keyHash P (Str.ofString "__firstlineno__")) (Value.str (Str.ofString "__firstlineno__") 254) (Value.int 10 253), DictEntry.mk (PyData.keyHash P (Str.ofString "__init__")) (Value.str (Str.ofString "__init__") 262) (Value.ref 65), DictEntry.mk (PyData.keyHash P (Str.ofString "__static_attributes__")) (Value.str (Str.ofString "__static_attributes__") 264) (Value.ref 66)] 5) #[]
noncomputable def e55 (_ : Params) : Obj := Obj.mk (Value.type "tuple") Option.none (Data.seq #[]) #[]
noncomputable def e56 (_ : Params) : Obj := Obj.mk Value.none Option.none (Data.fields #[Value.int 12 0, Value.int 4 0, Value.ref 64]) #[]
noncomputable def e57 (_ : Params) : Obj := Obj.mk (Value.type "code") Option.none (Data.fields #[Value.str (Str.ofString "Pattern") 245, Value.str (Str.ofString "Pattern") 246, Value.str (Str.ofString "/claim/cut.py") 247, Value.int 10 0, Value.int 0 0, Value.int 0 0, Value.int 0 0, Value.int 0 0, Value.ref 55, Value.bool Bool.false, Value.int 181 0, Value.ref 56, Value.none, Value.none, Value.none, Value.none, Value.int 248 0, Value.int 10 0, Value.str (Str.ofString "/claim/cut.py") 249]) #[]
noncomputable def e58 (_ : Params) : Obj := Obj.mk (Value.type "frame") Option.none Data.plain #[Option.some (Value.ref 57), Option.some (Value.ref 3), Option.some (Value.ref 54), Option.none, Option.some (Value.str (Str.ofString "snobol.values") 187), Option.none, Option.some (Value.ref 0)]
noncomputable def e59 (_ : Params) : Obj := Obj.mk (Value.type "tuple") Option.none (Data.seq #[]) #[]
noncomputable def e60 (_ : Params) : Obj := Obj.mk Value.none Option.none (Data.fields #[]) #[]
noncomputable def e61 (_ : Params) : Obj := Obj.mk (Value.type "tuple") Option.none (Data.seq #[Value.str (Str.ofString "self") 258, Value.str (Str.ofString "node") 259]) #[]
noncomputable def e62 (_ : Params) : Obj := Obj.mk (Value.type "tuple") Option.none (Data.seq #[]) #[]
noncomputable def e63 (_ : Params) : Obj := fnO (l := (clsB (hB.drop 3))) rfl (fun a b c => Obj.mk Value.none Option.none (Data.func (PySem.FuncData.mk (Str.ofString "__init__") (Str.ofString "Pattern.__init__") a (PySem.FuncBody.stmts b) c 0 [] Value.none Value.none Value.none Value.none Option.none Value.none Value.none 0)) #[])
noncomputable def e64 (_ : Params) : Obj := Obj.mk (Value.type "code") Option.none (Data.fields #[Value.str (Str.ofString "__init__") 255, Value.str (Str.ofString "Pattern.__init__") 256, Value.str (Str.ofString "/claim/cut.py") 257, Value.int 12 0, Value.int 2 0, Value.int 0 0, Value.int 0 0, Value.int 3 0, Value.ref 59, Value.bool Bool.true, Value.int 181 0, Value.ref 60, Value.none, Value.ref 61, Value.ref 62, Value.ref 63, Value.int 260 0, Value.int 12 0, Value.str (Str.ofString "/claim/cut.py") 261]) #[]
noncomputable def e65 (_ : Params) : Obj := fnO (l := (clsB (hB.drop 3))) rfl (fun a b c => Obj.mk (Value.type "function") Option.none (Data.func (PySem.FuncData.mk (Str.ofString "__init__") (Str.ofString "Pattern.__init__") a (PySem.FuncBody.stmts b) c 3 [] Value.none Value.none Value.none (Value.str (Str.ofString "snobol.values") 187) Option.none (Value.ref 64) Value.none 0)) #[])
noncomputable def e66 (_ : Params) : Obj := Obj.mk (Value.type "tuple") Option.none (Data.seq #[Value.str (Str.ofString "node") 263]) #[]
noncomputable def e67 (P : Params) : Obj := Obj.mk (Value.type "dict") Option.none (Data.dict #[DictEntry.mk (PyData.keyHash P (Str.ofString "__module__")) (Value.str (Str.ofString "__module__") 250) (Value.str (Str.ofString "snobol.values") 187), DictEntry.mk (PyData.keyHash P (Str.ofString "__firstlineno__")) (Value.str (Str.ofString "__firstlineno__") 254) (Value.int 10 253), DictEntry.mk (PyData.keyHash P (Str.ofString "__init__")) (Value.str (Str.ofString "__init__") 262) (Value.ref 65), DictEntry.mk (PyData.keyHash P (Str.ofString "__static_attributes__")) (Value.str (Str.ofString "__static_attributes__") 264) (Value.ref 66), DictEntry.mk (PyData.keyHash P (Str.ofString "__dict__")) (Value.str (Str.ofString "__dict__") 266) (Value.ref 69), DictEntry.mk (PyData.keyHash P (Str.ofString "__weakref__")) (Value.str (Str.ofString "__weakref__") 268) (Value.ref 70), DictEntry.mk (PyData.keyHash P (Str.ofString "__doc__")) (Value.str (Str.ofString "__doc__") 269) Value.none] 4) #[]
noncomputable def e68 (_ : Params) : Obj := Obj.mk (Value.type "type") Option.none (Data.cls (PySem.ClassData.mk (Str.ofString "Pattern") [Value.type "object"] [Value.ref 68, Value.type "object"] 67 (Str.ofString "Pattern") Bool.true [] [] Bool.false Option.none Bool.false)) #[Option.none, Option.none, Option.some (Value.str (Str.ofString "Pattern") 243), Option.some (Value.str (Str.ofString "Pattern") 251), Option.some (Value.builtin "object.__new__"), Option.some (Value.bool Bool.true)]
noncomputable def e69 (_ : Params) : Obj := Obj.mk (Value.type "getset_descriptor") Option.none (Data.fields #[Value.str (Str.ofString "__dict__") 265, Value.ref 68, Value.builtin "function.__dict__", Value.builtin "function.__dict__#set"]) #[]
noncomputable def e70 (_ : Params) : Obj := Obj.mk (Value.type "getset_descriptor") Option.none (Data.fields #[Value.str (Str.ofString "__weakref__") 267, Value.ref 68, Value.builtin "ExceptionGroup.__weakref__", Value.none]) #[]
noncomputable def e71 (_ : Params) : Obj := Obj.mk (Value.type "super") Option.none (Data.fields #[Value.ref 68, Value.ref 68, Value.ref 68]) #[]
noncomputable def e72 (_ : Params) : Obj := Obj.mk (Value.type "builtin_function_or_method") Option.none (Data.fields #[Value.builtin "object.__init_subclass__", Value.ref 68]) #[]
noncomputable def e73 (_ : Params) : Obj := Obj.mk (Value.type "tuple") Option.none (Data.seq #[]) #[]
noncomputable def e74 (_ : Params) : Obj := Obj.mk (Value.type "builtin_function_or_method") Option.none (Data.fields #[Value.builtin "type.__prepare__", Value.type "type"]) #[]
noncomputable def e75 (P : Params) : Obj := Obj.mk (Value.type "dict") Option.none (Data.dict #[DictEntry.mk (PyData.keyHash P (Str.ofString "__module__")) (Value.str (Str.ofString "__module__") 279) (Value.str (Str.ofString "snobol.values") 187), DictEntry.mk (PyData.keyHash P (Str.ofString "__qualname__")) (Value.str (Str.ofString "__qualname__") 281) (Value.str (Str.ofString "Delayed") 280), DictEntry.mk (PyData.keyHash P (Str.ofString "__firstlineno__")) (Value.str (Str.ofString "__firstlineno__") 283) (Value.int 14 282), DictEntry.mk (PyData.keyHash P (Str.ofString "__init__")) (Value.str (Str.ofString "__init__") 291) (Value.ref 86), DictEntry.mk (PyData.keyHash P (Str.ofString "__static_attributes__")) (Value.str (Str.ofString "__static_attributes__") 293) (Value.ref 87)] 5) #[]
noncomputable def e76 (_ : Params) : Obj := Obj.mk (Value.type "tuple") Option.none (Data.seq #[]) #[]
noncomputable def e77 (_ : Params) : Obj := Obj.mk Value.none Option.none (Data.fields #[Value.int 16 0, Value.int 4 0, Value.ref 85]) #[]
noncomputable def e78 (_ : Params) : Obj := Obj.mk (Value.type "code") Option.none (Data.fields #[Value.str (Str.ofString "Delayed") 274, Value.str (Str.ofString "Delayed") 275, Value.str (Str.ofString "/claim/cut.py") 276, Value.int 14 0, Value.int 0 0, Value.int 0 0, Value.int 0 0, Value.int 0 0, Value.ref 76, Value.bool Bool.false, Value.int 181 0, Value.ref 77, Value.none, Value.none, Value.none, Value.none, Value.int 277 0, Value.int 14 0, Value.str (Str.ofString "/claim/cut.py") 278]) #[]
noncomputable def e79 (_ : Params) : Obj := Obj.mk (Value.type "frame") Option.none Data.plain #[Option.some (Value.ref 78), Option.some (Value.ref 3), Option.some (Value.ref 75), Option.none, Option.some (Value.str (Str.ofString "snobol.values") 187), Option.none, Option.some (Value.ref 0)]
noncomputable def e80 (_ : Params) : Obj := Obj.mk (Value.type "tuple") Option.none (Data.seq #[]) #[]
noncomputable def e81 (_ : Params) : Obj := Obj.mk Value.none Option.none (Data.fields #[]) #[]
noncomputable def e82 (_ : Params) : Obj := Obj.mk (Value.type "tuple") Option.none (Data.seq #[Value.str (Str.ofString "self") 287, Value.str (Str.ofString "tree") 288]) #[]
noncomputable def e83 (_ : Params) : Obj := Obj.mk (Value.type "tuple") Option.none (Data.seq #[]) #[]
noncomputable def e84 (_ : Params) : Obj := fnO (l := (clsB (hB.drop 4))) rfl (fun a b c => Obj.mk Value.none Option.none (Data.func (PySem.FuncData.mk (Str.ofString "__init__") (Str.ofString "Delayed.__init__") a (PySem.FuncBody.stmts b) c 0 [] Value.none Value.none Value.none Value.none Option.none Value.none Value.none 0)) #[])
noncomputable def e85 (_ : Params) : Obj := Obj.mk (Value.type "code") Option.none (Data.fields #[Value.str (Str.ofString "__init__") 284, Value.str (Str.ofString "Delayed.__init__") 285, Value.str (Str.ofString "/claim/cut.py") 286, Value.int 16 0, Value.int 2 0, Value.int 0 0, Value.int 0 0, Value.int 3 0, Value.ref 80, Value.bool Bool.true, Value.int 181 0, Value.ref 81, Value.none, Value.ref 82, Value.ref 83, Value.ref 84, Value.int 289 0, Value.int 16 0, Value.str (Str.ofString "/claim/cut.py") 290]) #[]
noncomputable def e86 (_ : Params) : Obj := fnO (l := (clsB (hB.drop 4))) rfl (fun a b c => Obj.mk (Value.type "function") Option.none (Data.func (PySem.FuncData.mk (Str.ofString "__init__") (Str.ofString "Delayed.__init__") a (PySem.FuncBody.stmts b) c 3 [] Value.none Value.none Value.none (Value.str (Str.ofString "snobol.values") 187) Option.none (Value.ref 85) Value.none 0)) #[])
noncomputable def e87 (_ : Params) : Obj := Obj.mk (Value.type "tuple") Option.none (Data.seq #[Value.str (Str.ofString "tree") 292]) #[]
noncomputable def e88 (P : Params) : Obj := Obj.mk (Value.type "dict") Option.none (Data.dict #[DictEntry.mk (PyData.keyHash P (Str.ofString "__module__")) (Value.str (Str.ofString "__module__") 279) (Value.str (Str.ofString "snobol.values") 187), DictEntry.mk (PyData.keyHash P (Str.ofString "__firstlineno__")) (Value.str (Str.ofString "__firstlineno__") 283) (Value.int 14 282), DictEntry.mk (PyData.keyHash P (Str.ofString "__init__")) (Value.str (Str.ofString "__init__") 291) (Value.ref 86), DictEntry.mk (PyData.keyHash P (Str.ofString "__static_attributes__")) (Value.str (Str.ofString "__static_attributes__") 293) (Value.ref 87), DictEntry.mk (PyData.keyHash P (Str.ofString "__dict__")) (Value.str (Str.ofString "__dict__") 295) (Value.ref 90), DictEntry.mk (PyData.keyHash P (Str.ofString "__weakref__")) (Value.str (Str.ofString "__weakref__") 297) (Value.ref 91), DictEntry.mk (PyData.keyHash P (Str.ofString "__doc__")) (Value.str (Str.ofString "__doc__") 298) Value.none] 4) #[]
noncomputable def e89 (_ : Params) : Obj := Obj.mk (Value.type "type") Option.none (Data.cls (PySem.ClassData.mk (Str.ofString "Delayed") [Value.type "object"] [Value.ref 89, Value.type "object"] 88 (Str.ofString "Delayed") Bool.true [] [] Bool.false Option.none Bool.false)) #[Option.none, Option.none, Option.some (Value.str (Str.ofString "Delayed") 272), Option.some (Value.str (Str.ofString "Delayed") 280), Option.some (Value.builtin "object.__new__"), Option.some (Value.bool Bool.true)]
noncomputable def e90 (_ : Params) : Obj := Obj.mk (Value.type "getset_descriptor") Option.none (Data.fields #[Value.str (Str.ofString "__dict__") 294, Value.ref 89, Value.builtin "function.__dict__", Value.builtin "function.__dict__#set"]) #[]
noncomputable def e91 (_ : Params) : Obj := Obj.mk (Value.type "getset_descriptor") Option.none (Data.fields #[Value.str (Str.ofString "__weakref__") 296, Value.ref 89, Value.builtin "ExceptionGroup.__weakref__", Value.none]) #[]
noncomputable def e92 (_ : Params) : Obj := Obj.mk (Value.type "super") Option.none (Data.fields #[Value.ref 89, Value.ref 89, Value.ref 89]) #[]
noncomputable def e93 (_ : Params) : Obj := Obj.mk (Value.type "builtin_function_or_method") Option.none (Data.fields #[Value.builtin "object.__init_subclass__", Value.ref 89]) #[]
noncomputable def e94 (_ : Params) : Obj := Obj.mk (Value.type "tuple") Option.none (Data.seq #[]) #[]
noncomputable def e95 (_ : Params) : Obj := Obj.mk Value.none Option.none (Data.fields #[]) #[]
noncomputable def e96 (_ : Params) : Obj := Obj.mk (Value.type "tuple") Option.none (Data.seq #[Value.str (Str.ofString "value") 304]) #[]
noncomputable def e97 (_ : Params) : Obj := Obj.mk (Value.type "tuple") Option.none (Data.seq #[]) #[]
noncomputable def e98 (_ : Params) : Obj := fnO (l := (hB.drop 5)) rfl (fun a b c => Obj.mk Value.none Option.none (Data.func (PySem.FuncData.mk (Str.ofString "is_null") (Str.ofString "is_null") a (PySem.FuncBody.stmts b) c 0 [] Value.none Value.none Value.none Value.none Option.none Value.none Value.none 0)) #[])
noncomputable def e99 (_ : Params) : Obj := Obj.mk (Value.type "code") Option.none (Data.fields #[Value.str (Str.ofString "is_null") 301, Value.str (Str.ofString "is_null") 302, Value.str (Str.ofString "/claim/cut.py") 303, Value.int 18 0, Value.int 1 0, Value.int 0 0, Value.int 0 0, Value.int 3 0, Value.ref 94, Value.bool Bool.true, Value.int 181 0, Value.ref 95, Value.none, Value.ref 96, Value.ref 97, Value.ref 98, Value.int 305 0, Value.int 18 0, Value.str (Str.ofString "/claim/cut.py") 306]) #[]
noncomputable def e100 (_ : Params) : Obj := fnO (l := (hB.drop 5)) rfl (fun a b c => Obj.mk (Value.type "function") Option.none (Data.func (PySem.FuncData.mk (Str.ofString "is_null") (Str.ofString "is_null") a (PySem.FuncBody.stmts b) c 3 [] Value.none Value.none Value.none (Value.str (Str.ofString "snobol.values") 187) Option.none (Value.ref 99) Value.none 0)) #[])
noncomputable def e101 (_ : Params) : Obj := Obj.mk (Value.type "tuple") Option.none (Data.seq #[]) #[]
noncomputable def e102 (_ : Params) : Obj := Obj.mk Value.none Option.none (Data.fields #[]) #[]
noncomputable def e103 (_ : Params) : Obj := Obj.mk (Value.type "tuple") Option.none (Data.seq #[Value.str (Str.ofString "value") 311]) #[]
noncomputable def e104 (_ : Params) : Obj := Obj.mk (Value.type "tuple") Option.none (Data.seq #[]) #[]
noncomputable def e105 (_ : Params) : Obj := fnO (l := (hB.drop 6)) rfl (fun a b c => Obj.mk Value.none Option.none (Data.func (PySem.FuncData.mk (Str.ofString "is_plain") (Str.ofString "is_plain") a (PySem.FuncBody.stmts b) c 0 [] Value.none Value.none Value.none Value.none Option.none Value.none Value.none 0)) #[])
noncomputable def e106 (_ : Params) : Obj := Obj.mk (Value.type "code") Option.none (Data.fields #[Value.str (Str.ofString "is_plain") 308, Value.str (Str.ofString "is_plain") 309, Value.str (Str.ofString "/claim/cut.py") 310, Value.int 20 0, Value.int 1 0, Value.int 0 0, Value.int 0 0, Value.int 3 0, Value.ref 101, Value.bool Bool.true, Value.int 181 0, Value.ref 102, Value.none, Value.ref 103, Value.ref 104, Value.ref 105, Value.int 312 0, Value.int 20 0, Value.str (Str.ofString "/claim/cut.py") 313]) #[]
noncomputable def e107 (_ : Params) : Obj := fnO (l := (hB.drop 6)) rfl (fun a b c => Obj.mk (Value.type "function") Option.none (Data.func (PySem.FuncData.mk (Str.ofString "is_plain") (Str.ofString "is_plain") a (PySem.FuncBody.stmts b) c 3 [] Value.none Value.none Value.none (Value.str (Str.ofString "snobol.values") 187) Option.none (Value.ref 106) Value.none 0)) #[])
noncomputable def e108 (_ : Params) : Obj := Obj.mk (Value.type "tuple") Option.none (Data.seq #[]) #[]
noncomputable def e109 (_ : Params) : Obj := Obj.mk Value.none Option.none (Data.fields #[]) #[]
noncomputable def e110 (_ : Params) : Obj := Obj.mk (Value.type "tuple") Option.none (Data.seq #[Value.str (Str.ofString "number") 318, Value.str (Str.ofString "width") 319]) #[]
noncomputable def e111 (_ : Params) : Obj := Obj.mk (Value.type "tuple") Option.none (Data.seq #[]) #[]
noncomputable def e112 (_ : Params) : Obj := fnO (l := (hB.drop 7)) rfl (fun a b c => Obj.mk Value.none Option.none (Data.func (PySem.FuncData.mk (Str.ofString "fits") (Str.ofString "fits") a (PySem.FuncBody.stmts b) c 0 [] Value.none Value.none Value.none Value.none Option.none Value.none Value.none 0)) #[])
noncomputable def e113 (_ : Params) : Obj := Obj.mk (Value.type "code") Option.none (Data.fields #[Value.str (Str.ofString "fits") 315, Value.str (Str.ofString "fits") 316, Value.str (Str.ofString "/claim/cut.py") 317, Value.int 22 0, Value.int 2 0, Value.int 0 0, Value.int 0 0, Value.int 3 0, Value.ref 108, Value.bool Bool.true, Value.int 181 0, Value.ref 109, Value.none, Value.ref 110, Value.ref 111, Value.ref 112, Value.int 320 0, Value.int 22 0, Value.str (Str.ofString "/claim/cut.py") 321]) #[]
noncomputable def e114 (_ : Params) : Obj := fnO (l := (hB.drop 7)) rfl (fun a b c => Obj.mk (Value.type "function") Option.none (Data.func (PySem.FuncData.mk (Str.ofString "fits") (Str.ofString "fits") a (PySem.FuncBody.stmts b) c 3 [] Value.none Value.none Value.none (Value.str (Str.ofString "snobol.values") 187) Option.none (Value.ref 113) Value.none 0)) #[])
noncomputable def e115 (_ : Params) : Obj := Obj.mk (Value.type "tuple") Option.none (Data.seq #[]) #[]
noncomputable def e116 (_ : Params) : Obj := Obj.mk Value.none Option.none (Data.fields #[]) #[]
noncomputable def e117 (_ : Params) : Obj := Obj.mk (Value.type "tuple") Option.none (Data.seq #[Value.str (Str.ofString "text") 326, Value.str (Str.ofString "width") 327, Value.str (Str.ofString "digits") 328, Value.str (Str.ofString "number") 329, Value.str (Str.ofString "sign") 330]) #[]
noncomputable def e118 (_ : Params) : Obj := Obj.mk (Value.type "tuple") Option.none (Data.seq #[]) #[]
noncomputable def e119 (_ : Params) : Obj := fnO (l := (hB.drop 8)) rfl (fun a b c => Obj.mk Value.none Option.none (Data.func (PySem.FuncData.mk (Str.ofString "whole_of_text") (Str.ofString "whole_of_text") a (PySem.FuncBody.stmts b) c 0 [] Value.none Value.none Value.none Value.none Option.none Value.none Value.none 0)) #[])
noncomputable def e120 (_ : Params) : Obj := Obj.mk (Value.type "code") Option.none (Data.fields #[Value.str (Str.ofString "whole_of_text") 323, Value.str (Str.ofString "whole_of_text") 324, Value.str (Str.ofString "/claim/cut.py") 325, Value.int 24 0, Value.int 2 0, Value.int 0 0, Value.int 0 0, Value.int 3 0, Value.ref 115, Value.bool Bool.true, Value.int 181 0, Value.ref 116, Value.none, Value.ref 117, Value.ref 118, Value.ref 119, Value.int 331 0, Value.int 24 0, Value.str (Str.ofString "/claim/cut.py") 332]) #[]
noncomputable def e121 (_ : Params) : Obj := fnO (l := (hB.drop 8)) rfl (fun a b c => Obj.mk (Value.type "function") Option.none (Data.func (PySem.FuncData.mk (Str.ofString "whole_of_text") (Str.ofString "whole_of_text") a (PySem.FuncBody.stmts b) c 3 [] Value.none Value.none Value.none (Value.str (Str.ofString "snobol.values") 187) Option.none (Value.ref 120) Value.none 0)) #[])
noncomputable def e122 (_ : Params) : Obj := Obj.mk (Value.type "tuple") Option.none (Data.seq #[]) #[]
noncomputable def e123 (_ : Params) : Obj := Obj.mk Value.none Option.none (Data.fields #[]) #[]
noncomputable def e124 (_ : Params) : Obj := Obj.mk (Value.type "tuple") Option.none (Data.seq #[Value.str (Str.ofString "number") 337, Value.str (Str.ofString "left") 338, Value.str (Str.ofString "found") 339]) #[]
noncomputable def e125 (_ : Params) : Obj := Obj.mk (Value.type "tuple") Option.none (Data.seq #[]) #[]
noncomputable def e126 (_ : Params) : Obj := fnO (l := (hB.drop 9)) rfl (fun a b c => Obj.mk Value.none Option.none (Data.func (PySem.FuncData.mk (Str.ofString "text_of_whole") (Str.ofString "text_of_whole") a (PySem.FuncBody.stmts b) c 0 [] Value.none Value.none Value.none Value.none Option.none Value.none Value.none 0)) #[])
noncomputable def e127 (_ : Params) : Obj := Obj.mk (Value.type "code") Option.none (Data.fields #[Value.str (Str.ofString "text_of_whole") 334, Value.str (Str.ofString "text_of_whole") 335, Value.str (Str.ofString "/claim/cut.py") 336, Value.int 37 0, Value.int 1 0, Value.int 0 0, Value.int 0 0, Value.int 3 0, Value.ref 122, Value.bool Bool.true, Value.int 181 0, Value.ref 123, Value.none, Value.ref 124, Value.ref 125, Value.ref 126, Value.int 340 0, Value.int 37 0, Value.str (Str.ofString "/claim/cut.py") 341]) #[]
noncomputable def e128 (_ : Params) : Obj := fnO (l := (hB.drop 9)) rfl (fun a b c => Obj.mk (Value.type "function") Option.none (Data.func (PySem.FuncData.mk (Str.ofString "text_of_whole") (Str.ofString "text_of_whole") a (PySem.FuncBody.stmts b) c 3 [] Value.none Value.none Value.none (Value.str (Str.ofString "snobol.values") 187) Option.none (Value.ref 127) Value.none 0)) #[])
noncomputable def e129 (_ : Params) : Obj := Obj.mk (Value.type "tuple") Option.none (Data.seq #[]) #[]
noncomputable def e130 (_ : Params) : Obj := Obj.mk Value.none Option.none (Data.fields #[]) #[]
noncomputable def e131 (_ : Params) : Obj := Obj.mk (Value.type "tuple") Option.none (Data.seq #[Value.str (Str.ofString "value") 346, Value.str (Str.ofString "width") 347]) #[]
noncomputable def e132 (_ : Params) : Obj := Obj.mk (Value.type "tuple") Option.none (Data.seq #[]) #[]
noncomputable def e133 (_ : Params) : Obj := fnO (l := (hB.drop 10)) rfl (fun a b c => Obj.mk Value.none Option.none (Data.func (PySem.FuncData.mk (Str.ofString "to_whole") (Str.ofString "to_whole") a (PySem.FuncBody.stmts b) c 0 [] Value.none Value.none Value.none Value.none Option.none Value.none Value.none 0)) #[])
noncomputable def e134 (_ : Params) : Obj := Obj.mk (Value.type "code") Option.none (Data.fields #[Value.str (Str.ofString "to_whole") 343, Value.str (Str.ofString "to_whole") 344, Value.str (Str.ofString "/claim/cut.py") 345, Value.int 43 0, Value.int 2 0, Value.int 0 0, Value.int 0 0, Value.int 3 0, Value.ref 129, Value.bool Bool.true, Value.int 181 0, Value.ref 130, Value.none, Value.ref 131, Value.ref 132, Value.ref 133, Value.int 348 0, Value.int 43 0, Value.str (Str.ofString "/claim/cut.py") 349]) #[]
noncomputable def e135 (_ : Params) : Obj := fnO (l := (hB.drop 10)) rfl (fun a b c => Obj.mk (Value.type "function") Option.none (Data.func (PySem.FuncData.mk (Str.ofString "to_whole") (Str.ofString "to_whole") a (PySem.FuncBody.stmts b) c 3 [] Value.none Value.none Value.none (Value.str (Str.ofString "snobol.values") 187) Option.none (Value.ref 134) Value.none 0)) #[])
noncomputable def e136 (_ : Params) : Obj := Obj.mk (Value.type "tuple") Option.none (Data.seq #[]) #[]
noncomputable def e137 (_ : Params) : Obj := Obj.mk Value.none Option.none (Data.fields #[]) #[]
noncomputable def e138 (_ : Params) : Obj := Obj.mk (Value.type "tuple") Option.none (Data.seq #[Value.str (Str.ofString "value") 354]) #[]
noncomputable def e139 (_ : Params) : Obj := Obj.mk (Value.type "tuple") Option.none (Data.seq #[]) #[]
noncomputable def e140 (_ : Params) : Obj := fnO (l := (hB.drop 11)) rfl (fun a b c => Obj.mk Value.none Option.none (Data.func (PySem.FuncData.mk (Str.ofString "to_text") (Str.ofString "to_text") a (PySem.FuncBody.stmts b) c 0 [] Value.none Value.none Value.none Value.none Option.none Value.none Value.none 0)) #[])
noncomputable def e141 (_ : Params) : Obj := Obj.mk (Value.type "code") Option.none (Data.fields #[Value.str (Str.ofString "to_text") 351, Value.str (Str.ofString "to_text") 352, Value.str (Str.ofString "/claim/cut.py") 353, Value.int 47 0, Value.int 1 0, Value.int 0 0, Value.int 0 0, Value.int 3 0, Value.ref 136, Value.bool Bool.true, Value.int 181 0, Value.ref 137, Value.none, Value.ref 138, Value.ref 139, Value.ref 140, Value.int 355 0, Value.int 47 0, Value.str (Str.ofString "/claim/cut.py") 356]) #[]
noncomputable def e142 (_ : Params) : Obj := fnO (l := (hB.drop 11)) rfl (fun a b c => Obj.mk (Value.type "function") Option.none (Data.func (PySem.FuncData.mk (Str.ofString "to_text") (Str.ofString "to_text") a (PySem.FuncBody.stmts b) c 3 [] Value.none Value.none Value.none (Value.str (Str.ofString "snobol.values") 187) Option.none (Value.ref 141) Value.none 0)) #[])
noncomputable def e143 (_ : Params) : Obj := Obj.mk (Value.type "tuple") Option.none (Data.seq #[]) #[]
noncomputable def e144 (_ : Params) : Obj := Obj.mk Value.none Option.none (Data.fields #[]) #[]
noncomputable def e145 (_ : Params) : Obj := Obj.mk (Value.type "tuple") Option.none (Data.seq #[Value.str (Str.ofString "value") 361, Value.str (Str.ofString "width") 362, Value.str (Str.ofString "number") 363]) #[]
noncomputable def e146 (_ : Params) : Obj := Obj.mk (Value.type "tuple") Option.none (Data.seq #[]) #[]
noncomputable def e147 (_ : Params) : Obj := fnO (l := (hB.drop 12)) rfl (fun a b c => Obj.mk Value.none Option.none (Data.func (PySem.FuncData.mk (Str.ofString "need_whole") (Str.ofString "need_whole") a (PySem.FuncBody.stmts b) c 0 [] Value.none Value.none Value.none Value.none Option.none Value.none Value.none 0)) #[])
noncomputable def e148 (_ : Params) : Obj := Obj.mk (Value.type "code") Option.none (Data.fields #[Value.str (Str.ofString "need_whole") 358, Value.str (Str.ofString "need_whole") 359, Value.str (Str.ofString "/claim/cut.py") 360, Value.int 51 0, Value.int 2 0, Value.int 0 0, Value.int 0 0, Value.int 3 0, Value.ref 143, Value.bool Bool.true, Value.int 181 0, Value.ref 144, Value.none, Value.ref 145, Value.ref 146, Value.ref 147, Value.int 364 0, Value.int 51 0, Value.str (Str.ofString "/claim/cut.py") 365]) #[]
noncomputable def e149 (_ : Params) : Obj := fnO (l := (hB.drop 12)) rfl (fun a b c => Obj.mk (Value.type "function") Option.none (Data.func (PySem.FuncData.mk (Str.ofString "need_whole") (Str.ofString "need_whole") a (PySem.FuncBody.stmts b) c 3 [] Value.none Value.none Value.none (Value.str (Str.ofString "snobol.values") 187) Option.none (Value.ref 148) Value.none 0)) #[])
noncomputable def e150 (_ : Params) : Obj := Obj.mk (Value.type "tuple") Option.none (Data.seq #[]) #[]
noncomputable def e151 (_ : Params) : Obj := Obj.mk Value.none Option.none (Data.fields #[]) #[]
noncomputable def e152 (_ : Params) : Obj := Obj.mk (Value.type "tuple") Option.none (Data.seq #[Value.str (Str.ofString "value") 370, Value.str (Str.ofString "text") 371]) #[]
noncomputable def e153 (_ : Params) : Obj := Obj.mk (Value.type "tuple") Option.none (Data.seq #[]) #[]
noncomputable def e154 (_ : Params) : Obj := fnO (l := (hB.drop 13)) rfl (fun a b c => Obj.mk Value.none Option.none (Data.func (PySem.FuncData.mk (Str.ofString "need_text") (Str.ofString "need_text") a (PySem.FuncBody.stmts b) c 0 [] Value.none Value.none Value.none Value.none Option.none Value.none Value.none 0)) #[])
noncomputable def e155 (_ : Params) : Obj := Obj.mk (Value.type "code") Option.none (Data.fields #[Value.str (Str.ofString "need_text") 367, Value.str (Str.ofString "need_text") 368, Value.str (Str.ofString "/claim/cut.py") 369, Value.int 56 0, Value.int 1 0, Value.int 0 0, Value.int 0 0, Value.int 3 0, Value.ref 150, Value.bool Bool.true, Value.int 181 0, Value.ref 151, Value.none, Value.ref 152, Value.ref 153, Value.ref 154, Value.int 372 0, Value.int 56 0, Value.str (Str.ofString "/claim/cut.py") 373]) #[]
noncomputable def e156 (_ : Params) : Obj := fnO (l := (hB.drop 13)) rfl (fun a b c => Obj.mk (Value.type "function") Option.none (Data.func (PySem.FuncData.mk (Str.ofString "need_text") (Str.ofString "need_text") a (PySem.FuncBody.stmts b) c 3 [] Value.none Value.none Value.none (Value.str (Str.ofString "snobol.values") 187) Option.none (Value.ref 155) Value.none 0)) #[])
noncomputable def e157 (_ : Params) : Obj := Obj.mk (Value.type "tuple") Option.none (Data.seq #[]) #[]
noncomputable def e158 (_ : Params) : Obj := Obj.mk Value.none Option.none (Data.fields #[]) #[]
noncomputable def e159 (_ : Params) : Obj := Obj.mk (Value.type "tuple") Option.none (Data.seq #[Value.str (Str.ofString "number") 378, Value.str (Str.ofString "width") 379]) #[]
noncomputable def e160 (_ : Params) : Obj := Obj.mk (Value.type "tuple") Option.none (Data.seq #[]) #[]
noncomputable def e161 (_ : Params) : Obj := fnO (l := (hB.drop 14)) rfl (fun a b c => Obj.mk Value.none Option.none (Data.func (PySem.FuncData.mk (Str.ofString "checked_whole") (Str.ofString "checked_whole") a (PySem.FuncBody.stmts b) c 0 [] Value.none Value.none Value.none Value.none Option.none Value.none Value.none 0)) #[])
noncomputable def e162 (_ : Params) : Obj := Obj.mk (Value.type "code") Option.none (Data.fields #[Value.str (Str.ofString "checked_whole") 375, Value.str (Str.ofString "checked_whole") 376, Value.str (Str.ofString "/claim/cut.py") 377, Value.int 61 0, Value.int 2 0, Value.int 0 0, Value.int 0 0, Value.int 3 0, Value.ref 157, Value.bool Bool.true, Value.int 181 0, Value.ref 158, Value.none, Value.ref 159, Value.ref 160, Value.ref 161, Value.int 380 0, Value.int 61 0, Value.str (Str.ofString "/claim/cut.py") 381]) #[]
noncomputable def e163 (_ : Params) : Obj := fnO (l := (hB.drop 14)) rfl (fun a b c => Obj.mk (Value.type "function") Option.none (Data.func (PySem.FuncData.mk (Str.ofString "checked_whole") (Str.ofString "checked_whole") a (PySem.FuncBody.stmts b) c 3 [] Value.none Value.none Value.none (Value.str (Str.ofString "snobol.values") 187) Option.none (Value.ref 162) Value.none 0)) #[])
noncomputable def e164 (_ : Params) : Obj := Obj.mk (Value.type "tuple") Option.none (Data.seq #[Value.str (Str.ofString "chars") 385, Value.str (Str.ofString "") 386]) #[]
noncomputable def e165 (_ : Params) : Obj := Obj.mk (Value.type "tuple") Option.none (Data.seq #[]) #[]
noncomputable def e166 (_ : Params) : Obj := Obj.mk Value.none Option.none (Data.fields #[]) #[]
noncomputable def e167 (_ : Params) : Obj := Obj.mk (Value.type "tuple") Option.none (Data.seq #[Value.str (Str.ofString "node") 399]) #[]
noncomputable def e168 (_ : Params) : Obj := Obj.mk (Value.type "tuple") Option.none (Data.seq #[]) #[]
noncomputable def e169 (_ : Params) : Obj := fnO (l := (hB.drop 21)) rfl (fun a b c => Obj.mk Value.none Option.none (Data.func (PySem.FuncData.mk (Str.ofString "is_null_node") (Str.ofString "is_null_node") a (PySem.FuncBody.stmts b) c 0 [] Value.none Value.none Value.none Value.none Option.none Value.none Value.none 0)) #[])
noncomputable def e170 (_ : Params) : Obj := Obj.mk (Value.type "code") Option.none (Data.fields #[Value.str (Str.ofString "is_null_node") 396, Value.str (Str.ofString "is_null_node") 397, Value.str (Str.ofString "/claim/cut.py") 398, Value.int 71 0, Value.int 1 0, Value.int 0 0, Value.int 0 0, Value.int 3 0, Value.ref 165, Value.bool Bool.true, Value.int 181 0, Value.ref 166, Value.none, Value.ref 167, Value.ref 168, Value.ref 169, Value.int 400 0, Value.int 71 0, Value.str (Str.ofString "/claim/cut.py") 401]) #[]
noncomputable def e171 (_ : Params) : Obj := fnO (l := (hB.drop 21)) rfl (fun a b c => Obj.mk (Value.type "function") Option.none (Data.func (PySem.FuncData.mk (Str.ofString "is_null_node") (Str.ofString "is_null_node") a (PySem.FuncBody.stmts b) c 3 [] Value.none Value.none Value.none (Value.str (Str.ofString "snobol.nodes") 383) Option.none (Value.ref 170) Value.none 0)) #[])
noncomputable def e172 (_ : Params) : Obj := Obj.mk (Value.type "tuple") Option.none (Data.seq #[]) #[]
noncomputable def e173 (_ : Params) : Obj := Obj.mk Value.none Option.none (Data.fields #[]) #[]
noncomputable def e174 (_ : Params) : Obj := Obj.mk (Value.type "tuple") Option.none (Data.seq #[Value.str (Str.ofString "one") 406, Value.str (Str.ofString "other") 407]) #[]
noncomputable def e175 (_ : Params) : Obj := Obj.mk (Value.type "tuple") Option.none (Data.seq #[]) #[]
noncomputable def e176 (_ : Params) : Obj := fnO (l := (hB.drop 22)) rfl (fun a b c => Obj.mk Value.none Option.none (Data.func (PySem.FuncData.mk (Str.ofString "joined") (Str.ofString "joined") a (PySem.FuncBody.stmts b) c 0 [] Value.none Value.none Value.none Value.none Option.none Value.none Value.none 0)) #[])
noncomputable def e177 (_ : Params) : Obj := Obj.mk (Value.type "code") Option.none (Data.fields #[Value.str (Str.ofString "joined") 403, Value.str (Str.ofString "joined") 404, Value.str (Str.ofString "/claim/cut.py") 405, Value.int 73 0, Value.int 2 0, Value.int 0 0, Value.int 0 0, Value.int 3 0, Value.ref 172, Value.bool Bool.true, Value.int 181 0, Value.ref 173, Value.none, Value.ref 174, Value.ref 175, Value.ref 176, Value.int 408 0, Value.int 73 0, Value.str (Str.ofString "/claim/cut.py") 409]) #[]
noncomputable def e178 (_ : Params) : Obj := fnO (l := (hB.drop 22)) rfl (fun a b c => Obj.mk (Value.type "function") Option.none (Data.func (PySem.FuncData.mk (Str.ofString "joined") (Str.ofString "joined") a (PySem.FuncBody.stmts b) c 3 [] Value.none Value.none Value.none (Value.str (Str.ofString "snobol.nodes") 383) Option.none (Value.ref 177) Value.none 0)) #[])
noncomputable def e179 (_ : Params) : Obj := Obj.mk (Value.type "tuple") Option.none (Data.seq #[]) #[]
noncomputable def e180 (_ : Params) : Obj := Obj.mk Value.none Option.none (Data.fields #[]) #[]
noncomputable def e181 (_ : Params) : Obj := Obj.mk (Value.type "tuple") Option.none (Data.seq #[Value.str (Str.ofString "value") 414, Value.str (Str.ofString "text") 415]) #[]
noncomputable def e182 (_ : Params) : Obj := Obj.mk (Value.type "tuple") Option.none (Data.seq #[]) #[]
noncomputable def e183 (_ : Params) : Obj := fnO (l := (hB.drop 23)) rfl (fun a b c => Obj.mk Value.none Option.none (Data.func (PySem.FuncData.mk (Str.ofString "pattern_of") (Str.ofString "pattern_of") a (PySem.FuncBody.stmts b) c 0 [] Value.none Value.none Value.none Value.none Option.none Value.none Value.none 0)) #[])
noncomputable def e184 (_ : Params) : Obj := Obj.mk (Value.type "code") Option.none (Data.fields #[Value.str (Str.ofString "pattern_of") 411, Value.str (Str.ofString "pattern_of") 412, Value.str (Str.ofString "/claim/cut.py") 413, Value.int 81 0, Value.int 1 0, Value.int 0 0, Value.int 0 0, Value.int 3 0, Value.ref 179, Value.bool Bool.true, Value.int 181 0, Value.ref 180, Value.none, Value.ref 181, Value.ref 182, Value.ref 183, Value.int 416 0, Value.int 81 0, Value.str (Str.ofString "/claim/cut.py") 417]) #[]
noncomputable def e185 (_ : Params) : Obj := fnO (l := (hB.drop 23)) rfl (fun a b c => Obj.mk (Value.type "function") Option.none (Data.func (PySem.FuncData.mk (Str.ofString "pattern_of") (Str.ofString "pattern_of") a (PySem.FuncBody.stmts b) c 3 [] Value.none Value.none Value.none (Value.str (Str.ofString "snobol.nodes") 383) Option.none (Value.ref 184) Value.none 0)) #[])
noncomputable def e186 (_ : Params) : Obj := Obj.mk (Value.type "tuple") Option.none (Data.seq #[]) #[]
noncomputable def e187 (_ : Params) : Obj := Obj.mk Value.none Option.none (Data.fields #[]) #[]
noncomputable def e188 (_ : Params) : Obj := Obj.mk (Value.type "tuple") Option.none (Data.seq #[Value.str (Str.ofString "node") 422]) #[]
noncomputable def e189 (_ : Params) : Obj := Obj.mk (Value.type "tuple") Option.none (Data.seq #[]) #[]
noncomputable def e190 (_ : Params) : Obj := fnO (l := (hB.drop 24)) rfl (fun a b c => Obj.mk Value.none Option.none (Data.func (PySem.FuncData.mk (Str.ofString "parts_of") (Str.ofString "parts_of") a (PySem.FuncBody.stmts b) c 0 [] Value.none Value.none Value.none Value.none Option.none Value.none Value.none 0)) #[])
noncomputable def e191 (_ : Params) : Obj := Obj.mk (Value.type "code") Option.none (Data.fields #[Value.str (Str.ofString "parts_of") 419, Value.str (Str.ofString "parts_of") 420, Value.str (Str.ofString "/claim/cut.py") 421, Value.int 90 0, Value.int 1 0, Value.int 0 0, Value.int 0 0, Value.int 3 0, Value.ref 186, Value.bool Bool.true, Value.int 181 0, Value.ref 187, Value.none, Value.ref 188, Value.ref 189, Value.ref 190, Value.int 423 0, Value.int 90 0, Value.str (Str.ofString "/claim/cut.py") 424]) #[]
noncomputable def e192 (_ : Params) : Obj := fnO (l := (hB.drop 24)) rfl (fun a b c => Obj.mk (Value.type "function") Option.none (Data.func (PySem.FuncData.mk (Str.ofString "parts_of") (Str.ofString "parts_of") a (PySem.FuncBody.stmts b) c 3 [] Value.none Value.none Value.none (Value.str (Str.ofString "snobol.nodes") 383) Option.none (Value.ref 191) Value.none 0)) #[])
noncomputable def e193 (_ : Params) : Obj := Obj.mk (Value.type "tuple") Option.none (Data.seq #[]) #[]
noncomputable def e194 (_ : Params) : Obj := Obj.mk Value.none Option.none (Data.fields #[]) #[]
noncomputable def e195 (_ : Params) : Obj := Obj.mk (Value.type "tuple") Option.none (Data.seq #[Value.str (Str.ofString "node") 429, Value.str (Str.ofString "many") 430, Value.str (Str.ofString "left") 431, Value.str (Str.ofString "here") 432, Value.str (Str.ofString "depth") 433, Value.str (Str.ofString "part") 434]) #[]
noncomputable def e196 (_ : Params) : Obj := Obj.mk (Value.type "tuple") Option.none (Data.seq #[]) #[]
noncomputable def e197 (_ : Params) : Obj := fnO (l := (hB.drop 25)) rfl (fun a b c => Obj.mk Value.none Option.none (Data.func (PySem.FuncData.mk (Str.ofString "checked_node") (Str.ofString "checked_node") a (PySem.FuncBody.stmts b) c 0 [] Value.none Value.none Value.none Value.none Option.none Value.none Value.none 0)) #[])
noncomputable def e198 (_ : Params) : Obj := Obj.mk (Value.type "code") Option.none (Data.fields #[Value.str (Str.ofString "checked_node") 426, Value.str (Str.ofString "checked_node") 427, Value.str (Str.ofString "/claim/cut.py") 428, Value.int 94 0, Value.int 1 0, Value.int 0 0, Value.int 0 0, Value.int 3 0, Value.ref 193, Value.bool Bool.true, Value.int 181 0, Value.ref 194, Value.none, Value.ref 195, Value.ref 196, Value.ref 197, Value.int 435 0, Value.int 94 0, Value.str (Str.ofString "/claim/cut.py") 436]) #[]
noncomputable def e199 (_ : Params) : Obj := fnO (l := (hB.drop 25)) rfl (fun a b c => Obj.mk (Value.type "function") Option.none (Data.func (PySem.FuncData.mk (Str.ofString "checked_node") (Str.ofString "checked_node") a (PySem.FuncBody.stmts b) c 3 [] Value.none Value.none Value.none (Value.str (Str.ofString "snobol.nodes") 383) Option.none (Value.ref 198) Value.none 0)) #[])
noncomputable def e200 (_ : Params) : Obj := Obj.mk (Value.type "tuple") Option.none (Data.seq #[]) #[]
noncomputable def e201 (_ : Params) : Obj := Obj.mk (Value.type "builtin_function_or_method") Option.none (Data.fields #[Value.builtin "type.__prepare__", Value.type "type"]) #[]
noncomputable def e202 (P : Params) : Obj := Obj.mk (Value.type "dict") Option.none (Data.dict #[DictEntry.mk (PyData.keyHash P (Str.ofString "__module__")) (Value.str (Str.ofString "__module__") 447) (Value.str (Str.ofString "snobol.world") 438), DictEntry.mk (PyData.keyHash P (Str.ofString "__qualname__")) (Value.str (Str.ofString "__qualname__") 449) (Value.str (Str.ofString "World") 448), DictEntry.mk (PyData.keyHash P (Str.ofString "__firstlineno__")) (Value.str (Str.ofString "__firstlineno__") 451) (Value.int 105 450), DictEntry.mk (PyData.keyHash P (Str.ofString "__init__")) (Value.str (Str.ofString "__init__") 466) (Value.ref 214), DictEntry.mk (PyData.keyHash P (Str.ofString "__static_attributes__")) (Value.str (Str.ofString "__static_attributes__") 493) (Value.ref 215)] 5) #[]
noncomputable def e203 (_ : Params) : Obj := Obj.mk (Value.type "tuple") Option.none (Data.seq #[]) #[]
noncomputable def e204 (_ : Params) : Obj := Obj.mk Value.none Option.none (Data.fields #[Value.int 107 0, Value.int 4 0, Value.ref 213]) #[]
noncomputable def e205 (_ : Params) : Obj := Obj.mk (Value.type "code") Option.none (Data.fields #[Value.str (Str.ofString "World") 442, Value.str (Str.ofString "World") 443, Value.str (Str.ofString "/claim/cut.py") 444, Value.int 105 0, Value.int 0 0, Value.int 0 0, Value.int 0 0, Value.int 0 0, Value.ref 203, Value.bool Bool.false, Value.int 181 0, Value.ref 204, Value.none, Value.none, Value.none, Value.none, Value.int 445 0, Value.int 105 0, Value.str (Str.ofString "/claim/cut.py") 446]) #[]
noncomputable def e206 (_ : Params) : Obj := Obj.mk (Value.type "frame") Option.none Data.plain #[Option.some (Value.ref 205), Option.some (Value.ref 3), Option.some (Value.ref 202), Option.none, Option.some (Value.str (Str.ofString "snobol.world") 438), Option.none, Option.some (Value.ref 0)]
noncomputable def e207 (_ : Params) : Obj := Obj.mk (Value.type "tuple") Option.none (Data.seq #[Value.int 32 452, Value.int 5000 453, Value.int 30 454, Value.int 5000 455]) #[]
noncomputable def e208 (_ : Params) : Obj := Obj.mk (Value.type "tuple") Option.none (Data.seq #[]) #[]
noncomputable def e209 (_ : Params) : Obj := Obj.mk Value.none Option.none (Data.fields #[]) #[]
noncomputable def e210 (_ : Params) : Obj := Obj.mk (Value.type "tuple") Option.none (Data.seq #[Value.str (Str.ofString "self") 459, Value.str (Str.ofString "width") 460, Value.str (Str.ofString "most_steps") 461, Value.str (Str.ofString "most_depth") 462, Value.str (Str.ofString "most_length") 463]) #[]
noncomputable def e211 (_ : Params) : Obj := Obj.mk (Value.type "tuple") Option.none (Data.seq #[]) #[]
noncomputable def e212 (_ : Params) : Obj := fnO (l := (clsB (hB.drop 27))) rfl (fun a b c => Obj.mk Value.none Option.none (Data.func (PySem.FuncData.mk (Str.ofString "__init__") (Str.ofString "World.__init__") a (PySem.FuncBody.stmts b) c 0 [] Value.none Value.none Value.none Value.none Option.none Value.none Value.none 0)) #[])
noncomputable def e213 (_ : Params) : Obj := Obj.mk (Value.type "code") Option.none (Data.fields #[Value.str (Str.ofString "__init__") 456, Value.str (Str.ofString "World.__init__") 457, Value.str (Str.ofString "/claim/cut.py") 458, Value.int 107 0, Value.int 5 0, Value.int 0 0, Value.int 0 0, Value.int 3 0, Value.ref 208, Value.bool Bool.true, Value.int 181 0, Value.ref 209, Value.none, Value.ref 210, Value.ref 211, Value.ref 212, Value.int 464 0, Value.int 107 0, Value.str (Str.ofString "/claim/cut.py") 465]) #[]
noncomputable def e214 (_ : Params) : Obj := fnO (l := (clsB (hB.drop 27))) rfl (fun a b c => Obj.mk (Value.type "function") Option.none (Data.func (PySem.FuncData.mk (Str.ofString "__init__") (Str.ofString "World.__init__") a (PySem.FuncBody.stmts b) c 3 [] (Value.ref 207) Value.none Value.none (Value.str (Str.ofString "snobol.world") 438) Option.none (Value.ref 213) Value.none 0)) #[])
noncomputable def e215 (_ : Params) : Obj := Obj.mk (Value.type "tuple") Option.none (Data.seq #[Value.str (Str.ofString "aside") 467, Value.str (Str.ofString "depth") 468, Value.str (Str.ofString "evaluate") 469, Value.str (Str.ofString "functions") 470, Value.str (Str.ofString "holders") 471, Value.str (Str.ofString "inputs") 472, Value.str (Str.ofString "kept_names") 473, Value.str (Str.ofString "keywords") 474, Value.str (Str.ofString "labels") 475, Value.str (Str.ofString "made") 476, Value.str (Str.ofString "make_code") 477, Value.str (Str.ofString "matcher") 478, Value.str (Str.ofString "most_depth") 479, Value.str (Str.ofString "most_items") 480, Value.str (Str.ofString "most_length") 481, Value.str (Str.ofString "most_steps") 482, Value.str (Str.ofString "nested") 483, Value.str (Str.ofString "opsyns") 484, Value.str (Str.ofString "outputs") 485, Value.str (Str.ofString "read_names") 486, Value.str (Str.ofString "steps") 487, Value.str (Str.ofString "store") 488, Value.str (Str.ofString "traced") 489, Value.str (Str.ofString "traces") 490, Value.str (Str.ofString "width") 491, Value.str (Str.ofString "write_names") 492]) #[]
noncomputable def e216 (P : Params) : Obj := Obj.mk (Value.type "dict") Option.none (Data.dict #[DictEntry.mk (PyData.keyHash P (Str.ofString "__module__")) (Value.str (Str.ofString "__module__") 447) (Value.str (Str.ofString "snobol.world") 438), DictEntry.mk (PyData.keyHash P (Str.ofString "__firstlineno__")) (Value.str (Str.ofString "__firstlineno__") 451) (Value.int 105 450), DictEntry.mk (PyData.keyHash P (Str.ofString "__init__")) (Value.str (Str.ofString "__init__") 466) (Value.ref 214), DictEntry.mk (PyData.keyHash P (Str.ofString "__static_attributes__")) (Value.str (Str.ofString "__static_attributes__") 493) (Value.ref 215), DictEntry.mk (PyData.keyHash P (Str.ofString "__dict__")) (Value.str (Str.ofString "__dict__") 495) (Value.ref 218), DictEntry.mk (PyData.keyHash P (Str.ofString "__weakref__")) (Value.str (Str.ofString "__weakref__") 497) (Value.ref 219), DictEntry.mk (PyData.keyHash P (Str.ofString "__doc__")) (Value.str (Str.ofString "__doc__") 498) Value.none] 4) #[]
noncomputable def e217 (_ : Params) : Obj := Obj.mk (Value.type "type") Option.none (Data.cls (PySem.ClassData.mk (Str.ofString "World") [Value.type "object"] [Value.ref 217, Value.type "object"] 216 (Str.ofString "World") Bool.true [] [] Bool.false Option.none Bool.false)) #[Option.none, Option.none, Option.some (Value.str (Str.ofString "World") 440), Option.some (Value.str (Str.ofString "World") 448), Option.some (Value.builtin "object.__new__"), Option.some (Value.bool Bool.true)]
noncomputable def e218 (_ : Params) : Obj := Obj.mk (Value.type "getset_descriptor") Option.none (Data.fields #[Value.str (Str.ofString "__dict__") 494, Value.ref 217, Value.builtin "function.__dict__", Value.builtin "function.__dict__#set"]) #[]
noncomputable def e219 (_ : Params) : Obj := Obj.mk (Value.type "getset_descriptor") Option.none (Data.fields #[Value.str (Str.ofString "__weakref__") 496, Value.ref 217, Value.builtin "ExceptionGroup.__weakref__", Value.none]) #[]
noncomputable def e220 (_ : Params) : Obj := Obj.mk (Value.type "super") Option.none (Data.fields #[Value.ref 217, Value.ref 217, Value.ref 217]) #[]
noncomputable def e221 (_ : Params) : Obj := Obj.mk (Value.type "builtin_function_or_method") Option.none (Data.fields #[Value.builtin "object.__init_subclass__", Value.ref 217]) #[]
noncomputable def e222 (_ : Params) : Obj := Obj.mk (Value.type "tuple") Option.none (Data.seq #[]) #[]
noncomputable def e223 (_ : Params) : Obj := Obj.mk Value.none Option.none (Data.fields #[]) #[]
noncomputable def e224 (_ : Params) : Obj := Obj.mk (Value.type "tuple") Option.none (Data.seq #[Value.str (Str.ofString "world") 504, Value.str (Str.ofString "text") 505]) #[]
noncomputable def e225 (_ : Params) : Obj := Obj.mk (Value.type "tuple") Option.none (Data.seq #[]) #[]
noncomputable def e226 (_ : Params) : Obj := fnO (l := (hB.drop 28)) rfl (fun a b c => Obj.mk Value.none Option.none (Data.func (PySem.FuncData.mk (Str.ofString "check_length") (Str.ofString "check_length") a (PySem.FuncBody.stmts b) c 0 [] Value.none Value.none Value.none Value.none Option.none Value.none Value.none 0)) #[])
noncomputable def e227 (_ : Params) : Obj := Obj.mk (Value.type "code") Option.none (Data.fields #[Value.str (Str.ofString "check_length") 501, Value.str (Str.ofString "check_length") 502, Value.str (Str.ofString "/claim/cut.py") 503, Value.int 134 0, Value.int 2 0, Value.int 0 0, Value.int 0 0, Value.int 3 0, Value.ref 222, Value.bool Bool.true, Value.int 181 0, Value.ref 223, Value.none, Value.ref 224, Value.ref 225, Value.ref 226, Value.int 506 0, Value.int 134 0, Value.str (Str.ofString "/claim/cut.py") 507]) #[]
noncomputable def e228 (_ : Params) : Obj := fnO (l := (hB.drop 28)) rfl (fun a b c => Obj.mk (Value.type "function") Option.none (Data.func (PySem.FuncData.mk (Str.ofString "check_length") (Str.ofString "check_length") a (PySem.FuncBody.stmts b) c 3 [] Value.none Value.none Value.none (Value.str (Str.ofString "snobol.world") 438) Option.none (Value.ref 227) Value.none 0)) #[])
noncomputable def e229 (_ : Params) : Obj := Obj.mk (Value.type "tuple") Option.none (Data.seq #[]) #[]
noncomputable def e230 (_ : Params) : Obj := Obj.mk Value.none Option.none (Data.fields #[]) #[]
noncomputable def e231 (_ : Params) : Obj := Obj.mk (Value.type "tuple") Option.none (Data.seq #[Value.str (Str.ofString "one") 514, Value.str (Str.ofString "other") 515, Value.str (Str.ofString "found") 516]) #[]
noncomputable def e232 (_ : Params) : Obj := Obj.mk (Value.type "tuple") Option.none (Data.seq #[]) #[]
noncomputable def e233 (_ : Params) : Obj := fnO (l := (hB.drop 30)) rfl (fun a b c => Obj.mk Value.none Option.none (Data.func (PySem.FuncData.mk (Str.ofString "divided") (Str.ofString "divided") a (PySem.FuncBody.stmts b) c 0 [] Value.none Value.none Value.none Value.none Option.none Value.none Value.none 0)) #[])
noncomputable def e234 (_ : Params) : Obj := Obj.mk (Value.type "code") Option.none (Data.fields #[Value.str (Str.ofString "divided") 511, Value.str (Str.ofString "divided") 512, Value.str (Str.ofString "/claim/cut.py") 513, Value.int 139 0, Value.int 2 0, Value.int 0 0, Value.int 0 0, Value.int 3 0, Value.ref 229, Value.bool Bool.true, Value.int 181 0, Value.ref 230, Value.none, Value.ref 231, Value.ref 232, Value.ref 233, Value.int 517 0, Value.int 139 0, Value.str (Str.ofString "/claim/cut.py") 518]) #[]
noncomputable def e235 (_ : Params) : Obj := fnO (l := (hB.drop 30)) rfl (fun a b c => Obj.mk (Value.type "function") Option.none (Data.func (PySem.FuncData.mk (Str.ofString "divided") (Str.ofString "divided") a (PySem.FuncBody.stmts b) c 3 [] Value.none Value.none Value.none (Value.str (Str.ofString "snobol.operators") 509) Option.none (Value.ref 234) Value.none 0)) #[])
noncomputable def e236 (_ : Params) : Obj := Obj.mk (Value.type "tuple") Option.none (Data.seq #[]) #[]
noncomputable def e237 (_ : Params) : Obj := Obj.mk Value.none Option.none (Data.fields #[]) #[]
noncomputable def e238 (_ : Params) : Obj := Obj.mk (Value.type "tuple") Option.none (Data.seq #[Value.str (Str.ofString "one") 523, Value.str (Str.ofString "other") 524]) #[]
noncomputable def e239 (_ : Params) : Obj := Obj.mk (Value.type "tuple") Option.none (Data.seq #[]) #[]
noncomputable def e240 (_ : Params) : Obj := fnO (l := (hB.drop 31)) rfl (fun a b c => Obj.mk Value.none Option.none (Data.func (PySem.FuncData.mk (Str.ofString "remainder") (Str.ofString "remainder") a (PySem.FuncBody.stmts b) c 0 [] Value.none Value.none Value.none Value.none Option.none Value.none Value.none 0)) #[])
noncomputable def e241 (_ : Params) : Obj := Obj.mk (Value.type "code") Option.none (Data.fields #[Value.str (Str.ofString "remainder") 520, Value.str (Str.ofString "remainder") 521, Value.str (Str.ofString "/claim/cut.py") 522, Value.int 144 0, Value.int 2 0, Value.int 0 0, Value.int 0 0, Value.int 3 0, Value.ref 236, Value.bool Bool.true, Value.int 181 0, Value.ref 237, Value.none, Value.ref 238, Value.ref 239, Value.ref 240, Value.int 525 0, Value.int 144 0, Value.str (Str.ofString "/claim/cut.py") 526]) #[]
noncomputable def e242 (_ : Params) : Obj := fnO (l := (hB.drop 31)) rfl (fun a b c => Obj.mk (Value.type "function") Option.none (Data.func (PySem.FuncData.mk (Str.ofString "remainder") (Str.ofString "remainder") a (PySem.FuncBody.stmts b) c 3 [] Value.none Value.none Value.none (Value.str (Str.ofString "snobol.operators") 509) Option.none (Value.ref 241) Value.none 0)) #[])
noncomputable def e243 (_ : Params) : Obj := Obj.mk (Value.type "tuple") Option.none (Data.seq #[]) #[]
noncomputable def e244 (_ : Params) : Obj := Obj.mk Value.none Option.none (Data.fields #[]) #[]
noncomputable def e245 (_ : Params) : Obj := Obj.mk (Value.type "tuple") Option.none (Data.seq #[Value.str (Str.ofString "value") 531]) #[]
noncomputable def e246 (_ : Params) : Obj := Obj.mk (Value.type "tuple") Option.none (Data.seq #[]) #[]
noncomputable def e247 (_ : Params) : Obj := fnO (l := (hB.drop 32)) rfl (fun a b c => Obj.mk Value.none Option.none (Data.func (PySem.FuncData.mk (Str.ofString "is_part") (Str.ofString "is_part") a (PySem.FuncBody.stmts b) c 0 [] Value.none Value.none Value.none Value.none Option.none Value.none Value.none 0)) #[])
noncomputable def e248 (_ : Params) : Obj := Obj.mk (Value.type "code") Option.none (Data.fields #[Value.str (Str.ofString "is_part") 528, Value.str (Str.ofString "is_part") 529, Value.str (Str.ofString "/claim/cut.py") 530, Value.int 146 0, Value.int 1 0, Value.int 0 0, Value.int 0 0, Value.int 3 0, Value.ref 243, Value.bool Bool.true, Value.int 181 0, Value.ref 244, Value.none, Value.ref 245, Value.ref 246, Value.ref 247, Value.int 532 0, Value.int 146 0, Value.str (Str.ofString "/claim/cut.py") 533]) #[]
noncomputable def e249 (_ : Params) : Obj := fnO (l := (hB.drop 32)) rfl (fun a b c => Obj.mk (Value.type "function") Option.none (Data.func (PySem.FuncData.mk (Str.ofString "is_part") (Str.ofString "is_part") a (PySem.FuncBody.stmts b) c 3 [] Value.none Value.none Value.none (Value.str (Str.ofString "snobol.operators") 509) Option.none (Value.ref 248) Value.none 0)) #[])
noncomputable def e250 (_ : Params) : Obj := Obj.mk (Value.type "tuple") Option.none (Data.seq #[]) #[]
noncomputable def e251 (_ : Params) : Obj := Obj.mk Value.none Option.none (Data.fields #[]) #[]
noncomputable def e252 (_ : Params) : Obj := Obj.mk (Value.type "tuple") Option.none (Data.seq #[Value.str (Str.ofString "world") 538, Value.str (Str.ofString "one") 539, Value.str (Str.ofString "other") 540]) #[]
noncomputable def e253 (_ : Params) : Obj := Obj.mk (Value.type "tuple") Option.none (Data.seq #[]) #[]
noncomputable def e254 (_ : Params) : Obj := fnO (l := (hB.drop 33)) rfl (fun a b c => Obj.mk Value.none Option.none (Data.func (PySem.FuncData.mk (Str.ofString "join_values") (Str.ofString "join_values") a (PySem.FuncBody.stmts b) c 0 [] Value.none Value.none Value.none Value.none Option.none Value.none Value.none 0)) #[])
noncomputable def e255 (_ : Params) : Obj := Obj.mk (Value.type "code") Option.none (Data.fields #[Value.str (Str.ofString "join_values") 535, Value.str (Str.ofString "join_values") 536, Value.str (Str.ofString "/claim/cut.py") 537, Value.int 148 0, Value.int 3 0, Value.int 0 0, Value.int 0 0, Value.int 3 0, Value.ref 250, Value.bool Bool.true, Value.int 181 0, Value.ref 251, Value.none, Value.ref 252, Value.ref 253, Value.ref 254, Value.int 541 0, Value.int 148 0, Value.str (Str.ofString "/claim/cut.py") 542]) #[]
noncomputable def e256 (_ : Params) : Obj := fnO (l := (hB.drop 33)) rfl (fun a b c => Obj.mk (Value.type "function") Option.none (Data.func (PySem.FuncData.mk (Str.ofString "join_values") (Str.ofString "join_values") a (PySem.FuncBody.stmts b) c 3 [] Value.none Value.none Value.none (Value.str (Str.ofString "snobol.operators") 509) Option.none (Value.ref 255) Value.none 0)) #[])
noncomputable def e257 (_ : Params) : Obj := Obj.mk (Value.type "tuple") Option.none (Data.seq #[]) #[]
noncomputable def e258 (_ : Params) : Obj := Obj.mk Value.none Option.none (Data.fields #[]) #[]
noncomputable def e259 (_ : Params) : Obj := Obj.mk (Value.type "tuple") Option.none (Data.seq #[Value.str (Str.ofString "text") 549, Value.str (Str.ofString "begin") 550, Value.str (Str.ofString "many") 551]) #[]
noncomputable def e260 (_ : Params) : Obj := Obj.mk (Value.type "tuple") Option.none (Data.seq #[]) #[]
noncomputable def e261 (_ : Params) : Obj := fnO (l := (hB.drop 35)) rfl (fun a b c => Obj.mk Value.none Option.none (Data.func (PySem.FuncData.mk (Str.ofString "part_of") (Str.ofString "part_of") a (PySem.FuncBody.stmts b) c 0 [] Value.none Value.none Value.none Value.none Option.none Value.none Value.none 0)) #[])
noncomputable def e262 (_ : Params) : Obj := Obj.mk (Value.type "code") Option.none (Data.fields #[Value.str (Str.ofString "part_of") 546, Value.str (Str.ofString "part_of") 547, Value.str (Str.ofString "/claim/cut.py") 548, Value.int 159 0, Value.int 3 0, Value.int 0 0, Value.int 0 0, Value.int 3 0, Value.ref 257, Value.bool Bool.true, Value.int 181 0, Value.ref 258, Value.none, Value.ref 259, Value.ref 260, Value.ref 261, Value.int 552 0, Value.int 159 0, Value.str (Str.ofString "/claim/cut.py") 553]) #[]
noncomputable def e263 (_ : Params) : Obj := fnO (l := (hB.drop 35)) rfl (fun a b c => Obj.mk (Value.type "function") Option.none (Data.func (PySem.FuncData.mk (Str.ofString "part_of") (Str.ofString "part_of") a (PySem.FuncBody.stmts b) c 3 [] Value.none Value.none Value.none (Value.str (Str.ofString "snobol.strings") 544) Option.none (Value.ref 262) Value.none 0)) #[])
noncomputable def e264 (_ : Params) : Obj := Obj.mk (Value.type "tuple") Option.none (Data.seq #[]) #[]
noncomputable def e265 (_ : Params) : Obj := Obj.mk Value.none Option.none (Data.fields #[]) #[]
noncomputable def e266 (_ : Params) : Obj := Obj.mk (Value.type "tuple") Option.none (Data.seq #[Value.str (Str.ofString "value") 558]) #[]
noncomputable def e267 (_ : Params) : Obj := Obj.mk (Value.type "tuple") Option.none (Data.seq #[]) #[]
noncomputable def e268 (_ : Params) : Obj := fnO (l := (hB.drop 36)) rfl (fun a b c => Obj.mk Value.none Option.none (Data.func (PySem.FuncData.mk (Str.ofString "told_or_fail") (Str.ofString "told_or_fail") a (PySem.FuncBody.stmts b) c 0 [] Value.none Value.none Value.none Value.none Option.none Value.none Value.none 0)) #[])
noncomputable def e269 (_ : Params) : Obj := Obj.mk (Value.type "code") Option.none (Data.fields #[Value.str (Str.ofString "told_or_fail") 555, Value.str (Str.ofString "told_or_fail") 556, Value.str (Str.ofString "/claim/cut.py") 557, Value.int 165 0, Value.int 1 0, Value.int 0 0, Value.int 0 0, Value.int 3 0, Value.ref 264, Value.bool Bool.true, Value.int 181 0, Value.ref 265, Value.none, Value.ref 266, Value.ref 267, Value.ref 268, Value.int 559 0, Value.int 165 0, Value.str (Str.ofString "/claim/cut.py") 560]) #[]
noncomputable def e270 (_ : Params) : Obj := fnO (l := (hB.drop 36)) rfl (fun a b c => Obj.mk (Value.type "function") Option.none (Data.func (PySem.FuncData.mk (Str.ofString "told_or_fail") (Str.ofString "told_or_fail") a (PySem.FuncBody.stmts b) c 3 [] Value.none Value.none Value.none (Value.str (Str.ofString "snobol.strings") 544) Option.none (Value.ref 269) Value.none 0)) #[])
noncomputable def e271 (_ : Params) : Obj := Obj.mk (Value.type "tuple") Option.none (Data.seq #[]) #[]
noncomputable def e272 (_ : Params) : Obj := Obj.mk Value.none Option.none (Data.fields #[]) #[]
noncomputable def e273 (_ : Params) : Obj := Obj.mk (Value.type "tuple") Option.none (Data.seq #[Value.str (Str.ofString "world") 565, Value.str (Str.ofString "args") 566]) #[]
noncomputable def e274 (_ : Params) : Obj := Obj.mk (Value.type "tuple") Option.none (Data.seq #[]) #[]
noncomputable def e275 (_ : Params) : Obj := fnO (l := (hB.drop 37)) rfl (fun a b c => Obj.mk Value.none Option.none (Data.func (PySem.FuncData.mk (Str.ofString "text_size") (Str.ofString "text_size") a (PySem.FuncBody.stmts b) c 0 [] Value.none Value.none Value.none Value.none Option.none Value.none Value.none 0)) #[])
noncomputable def e276 (_ : Params) : Obj := Obj.mk (Value.type "code") Option.none (Data.fields #[Value.str (Str.ofString "text_size") 562, Value.str (Str.ofString "text_size") 563, Value.str (Str.ofString "/claim/cut.py") 564, Value.int 167 0, Value.int 2 0, Value.int 0 0, Value.int 0 0, Value.int 3 0, Value.ref 271, Value.bool Bool.true, Value.int 181 0, Value.ref 272, Value.none, Value.ref 273, Value.ref 274, Value.ref 275, Value.int 567 0, Value.int 167 0, Value.str (Str.ofString "/claim/cut.py") 568]) #[]
noncomputable def e277 (_ : Params) : Obj := fnO (l := (hB.drop 37)) rfl (fun a b c => Obj.mk (Value.type "function") Option.none (Data.func (PySem.FuncData.mk (Str.ofString "text_size") (Str.ofString "text_size") a (PySem.FuncBody.stmts b) c 3 [] Value.none Value.none Value.none (Value.str (Str.ofString "snobol.strings") 544) Option.none (Value.ref 276) Value.none 0)) #[])
noncomputable def e278 (_ : Params) : Obj := Obj.mk (Value.type "tuple") Option.none (Data.seq #[]) #[]
noncomputable def e279 (_ : Params) : Obj := Obj.mk Value.none Option.none (Data.fields #[]) #[]
noncomputable def e280 (_ : Params) : Obj := Obj.mk (Value.type "tuple") Option.none (Data.seq #[Value.str (Str.ofString "world") 573, Value.str (Str.ofString "args") 574, Value.str (Str.ofString "text") 575, Value.str (Str.ofString "many") 576]) #[]
noncomputable def e281 (_ : Params) : Obj := Obj.mk (Value.type "tuple") Option.none (Data.seq #[]) #[]
noncomputable def e282 (_ : Params) : Obj := fnO (l := (hB.drop 38)) rfl (fun a b c => Obj.mk Value.none Option.none (Data.func (PySem.FuncData.mk (Str.ofString "text_dupl") (Str.ofString "text_dupl") a (PySem.FuncBody.stmts b) c 0 [] Value.none Value.none Value.none Value.none Option.none Value.none Value.none 0)) #[])
noncomputable def e283 (_ : Params) : Obj := Obj.mk (Value.type "code") Option.none (Data.fields #[Value.str (Str.ofString "text_dupl") 570, Value.str (Str.ofString "text_dupl") 571, Value.str (Str.ofString "/claim/cut.py") 572, Value.int 169 0, Value.int 2 0, Value.int 0 0, Value.int 0 0, Value.int 3 0, Value.ref 278, Value.bool Bool.true, Value.int 181 0, Value.ref 279, Value.none, Value.ref 280, Value.ref 281, Value.ref 282, Value.int 577 0, Value.int 169 0, Value.str (Str.ofString "/claim/cut.py") 578]) #[]
noncomputable def e284 (_ : Params) : Obj := fnO (l := (hB.drop 38)) rfl (fun a b c => Obj.mk (Value.type "function") Option.none (Data.func (PySem.FuncData.mk (Str.ofString "text_dupl") (Str.ofString "text_dupl") a (PySem.FuncBody.stmts b) c 3 [] Value.none Value.none Value.none (Value.str (Str.ofString "snobol.strings") 544) Option.none (Value.ref 283) Value.none 0)) #[])
noncomputable def e285 (_ : Params) : Obj := Obj.mk (Value.type "tuple") Option.none (Data.seq #[]) #[]
noncomputable def e286 (_ : Params) : Obj := Obj.mk Value.none Option.none (Data.fields #[]) #[]
noncomputable def e287 (_ : Params) : Obj := Obj.mk (Value.type "tuple") Option.none (Data.seq #[Value.str (Str.ofString "world") 583, Value.str (Str.ofString "args") 584]) #[]
noncomputable def e288 (_ : Params) : Obj := Obj.mk (Value.type "tuple") Option.none (Data.seq #[]) #[]
noncomputable def e289 (_ : Params) : Obj := fnO (l := (hB.drop 39)) rfl (fun a b c => Obj.mk Value.none Option.none (Data.func (PySem.FuncData.mk (Str.ofString "text_reverse") (Str.ofString "text_reverse") a (PySem.FuncBody.stmts b) c 0 [] Value.none Value.none Value.none Value.none Option.none Value.none Value.none 0)) #[])
noncomputable def e290 (_ : Params) : Obj := Obj.mk (Value.type "code") Option.none (Data.fields #[Value.str (Str.ofString "text_reverse") 580, Value.str (Str.ofString "text_reverse") 581, Value.str (Str.ofString "/claim/cut.py") 582, Value.int 176 0, Value.int 2 0, Value.int 0 0, Value.int 0 0, Value.int 3 0, Value.ref 285, Value.bool Bool.true, Value.int 181 0, Value.ref 286, Value.none, Value.ref 287, Value.ref 288, Value.ref 289, Value.int 585 0, Value.int 176 0, Value.str (Str.ofString "/claim/cut.py") 586]) #[]
noncomputable def e291 (_ : Params) : Obj := fnO (l := (hB.drop 39)) rfl (fun a b c => Obj.mk (Value.type "function") Option.none (Data.func (PySem.FuncData.mk (Str.ofString "text_reverse") (Str.ofString "text_reverse") a (PySem.FuncBody.stmts b) c 3 [] Value.none Value.none Value.none (Value.str (Str.ofString "snobol.strings") 544) Option.none (Value.ref 290) Value.none 0)) #[])
noncomputable def e292 (_ : Params) : Obj := Obj.mk (Value.type "tuple") Option.none (Data.seq #[]) #[]
noncomputable def e293 (_ : Params) : Obj := Obj.mk Value.none Option.none (Data.fields #[]) #[]
noncomputable def e294 (_ : Params) : Obj := Obj.mk (Value.type "tuple") Option.none (Data.seq #[Value.str (Str.ofString "world") 591, Value.str (Str.ofString "args") 592, Value.str (Str.ofString "text") 593, Value.str (Str.ofString "begin") 594]) #[]
noncomputable def e295 (_ : Params) : Obj := Obj.mk (Value.type "tuple") Option.none (Data.seq #[]) #[]
noncomputable def e296 (_ : Params) : Obj := fnO (l := (hB.drop 40)) rfl (fun a b c => Obj.mk Value.none Option.none (Data.func (PySem.FuncData.mk (Str.ofString "text_substr") (Str.ofString "text_substr") a (PySem.FuncBody.stmts b) c 0 [] Value.none Value.none Value.none Value.none Option.none Value.none Value.none 0)) #[])
noncomputable def e297 (_ : Params) : Obj := Obj.mk (Value.type "code") Option.none (Data.fields #[Value.str (Str.ofString "text_substr") 588, Value.str (Str.ofString "text_substr") 589, Value.str (Str.ofString "/claim/cut.py") 590, Value.int 178 0, Value.int 2 0, Value.int 0 0, Value.int 0 0, Value.int 3 0, Value.ref 292, Value.bool Bool.true, Value.int 181 0, Value.ref 293, Value.none, Value.ref 294, Value.ref 295, Value.ref 296, Value.int 595 0, Value.int 178 0, Value.str (Str.ofString "/claim/cut.py") 596]) #[]
noncomputable def e298 (_ : Params) : Obj := fnO (l := (hB.drop 40)) rfl (fun a b c => Obj.mk (Value.type "function") Option.none (Data.func (PySem.FuncData.mk (Str.ofString "text_substr") (Str.ofString "text_substr") a (PySem.FuncBody.stmts b) c 3 [] Value.none Value.none Value.none (Value.str (Str.ofString "snobol.strings") 544) Option.none (Value.ref 297) Value.none 0)) #[])
noncomputable def e299 (_ : Params) : Obj := Obj.mk (Value.type "tuple") Option.none (Data.seq #[]) #[]
noncomputable def e300 (_ : Params) : Obj := Obj.mk Value.none Option.none (Data.fields #[]) #[]
noncomputable def e301 (_ : Params) : Obj := Obj.mk (Value.type "tuple") Option.none (Data.seq #[Value.str (Str.ofString "world") 601, Value.str (Str.ofString "args") 602, Value.str (Str.ofString "one") 603]) #[]
noncomputable def e302 (_ : Params) : Obj := Obj.mk (Value.type "tuple") Option.none (Data.seq #[]) #[]
noncomputable def e303 (_ : Params) : Obj := fnO (l := (hB.drop 41)) rfl (fun a b c => Obj.mk Value.none Option.none (Data.func (PySem.FuncData.mk (Str.ofString "whole_remdr") (Str.ofString "whole_remdr") a (PySem.FuncBody.stmts b) c 0 [] Value.none Value.none Value.none Value.none Option.none Value.none Value.none 0)) #[])
noncomputable def e304 (_ : Params) : Obj := Obj.mk (Value.type "code") Option.none (Data.fields #[Value.str (Str.ofString "whole_remdr") 598, Value.str (Str.ofString "whole_remdr") 599, Value.str (Str.ofString "/claim/cut.py") 600, Value.int 181 0, Value.int 2 0, Value.int 0 0, Value.int 0 0, Value.int 3 0, Value.ref 299, Value.bool Bool.true, Value.int 181 0, Value.ref 300, Value.none, Value.ref 301, Value.ref 302, Value.ref 303, Value.int 604 0, Value.int 181 0, Value.str (Str.ofString "/claim/cut.py") 605]) #[]
noncomputable def e305 (_ : Params) : Obj := fnO (l := (hB.drop 41)) rfl (fun a b c => Obj.mk (Value.type "function") Option.none (Data.func (PySem.FuncData.mk (Str.ofString "whole_remdr") (Str.ofString "whole_remdr") a (PySem.FuncBody.stmts b) c 3 [] Value.none Value.none Value.none (Value.str (Str.ofString "snobol.strings") 544) Option.none (Value.ref 304) Value.none 0)) #[])
noncomputable def e306 (_ : Params) : Obj := Obj.mk (Value.type "tuple") Option.none (Data.seq #[]) #[]
noncomputable def e307 (_ : Params) : Obj := Obj.mk Value.none Option.none (Data.fields #[]) #[]
noncomputable def e308 (_ : Params) : Obj := fnO (l := (hB.drop 43)) rfl (fun a b c => Obj.mk Value.none Option.none (Data.func (PySem.FuncData.mk (Str.ofString "_law_is_even") (Str.ofString "_law_is_even") a (PySem.FuncBody.stmts b) c 0 [] Value.none Value.none Value.none Value.none Option.none Value.none Value.none 0)) #[])
noncomputable def e309 (_ : Params) : Obj := Obj.mk (Value.type "code") Option.none (Data.fields #[Value.str (Str.ofString "_law_is_even") 609, Value.str (Str.ofString "_law_is_even") 610, Value.str (Str.ofString "/claim/cut.py") 611, Value.int 185 0, Value.int 2 0, Value.int 0 0, Value.int 0 0, Value.int 3 0, Value.ref 306, Value.bool Bool.true, Value.int 181 0, Value.ref 307, Value.none, Value.none, Value.none, Value.ref 308, Value.int 612 0, Value.int 185 0, Value.str (Str.ofString "/claim/cut.py") 613]) #[]
noncomputable def e310 (_ : Params) : Obj := fnO (l := (hB.drop 43)) rfl (fun a b c => Obj.mk (Value.type "function") Option.none (Data.func (PySem.FuncData.mk (Str.ofString "_law_is_even") (Str.ofString "_law_is_even") a (PySem.FuncBody.stmts b) c 3 [] Value.none Value.none Value.none (Value.str (Str.ofString "law_xm0950_01") 607) Option.none (Value.ref 309) Value.none 0)) #[])
noncomputable def e311 (_ : Params) : Obj := Obj.mk (Value.type "tuple") Option.none (Data.seq #[]) #[]
noncomputable def e312 (_ : Params) : Obj := Obj.mk Value.none Option.none (Data.fields #[]) #[]
noncomputable def e313 (_ : Params) : Obj := fnO (l := (hB.drop 44)) rfl (fun a b c => Obj.mk Value.none Option.none (Data.func (PySem.FuncData.mk (Str.ofString "law") (Str.ofString "law") a (PySem.FuncBody.stmts b) c 0 [] Value.none Value.none Value.none Value.none Option.none Value.none Value.none 0)) #[])
noncomputable def e314 (_ : Params) : Obj := Obj.mk (Value.type "code") Option.none (Data.fields #[Value.str (Str.ofString "law") 615, Value.str (Str.ofString "law") 616, Value.str (Str.ofString "/claim/cut.py") 617, Value.int 192 0, Value.int 1 0, Value.int 0 0, Value.int 0 0, Value.int 3 0, Value.ref 311, Value.bool Bool.true, Value.int 181 0, Value.ref 312, Value.none, Value.none, Value.none, Value.ref 313, Value.int 618 0, Value.int 192 0, Value.str (Str.ofString "/claim/cut.py") 619]) #[]
noncomputable def e315 (_ : Params) : Obj := fnO (l := (hB.drop 44)) rfl (fun a b c => Obj.mk (Value.type "function") Option.none (Data.func (PySem.FuncData.mk (Str.ofString "law") (Str.ofString "law") a (PySem.FuncBody.stmts b) c 3 [] Value.none Value.none Value.none (Value.str (Str.ofString "law_xm0950_01") 607) Option.none (Value.ref 314) Value.none 0)) #[])
/-- the objects behind the text, as a tree -/
noncomputable def endT (P : Params) : BT :=
  .node (boot_o_0 P) (.node (boot_o_1 P) (.node (e3 P) (.node (boot_o_7 P) (.node (e15 P) (.node (e31 P) (.node (e63 P) (.node (e127 P) (.node (e255 P) .nil .nil) .nil) (.node (e191 P) .nil .nil)) (.node (e95 P) (.node (e159 P) (.node (e287 P) .nil .nil) .nil) (.node (e223 P) .nil .nil))) (.node (e47 P) (.node (e79 P) (.node (e143 P) (.node (e271 P) .nil .nil) .nil) (.node (e207 P) .nil .nil)) (.node (e111 P) (.node (e175 P) (.node (e303 P) .nil .nil) .nil) (.node (e239 P) .nil .nil)))) (.node (e23 P) (.node (e39 P) (.node (e71 P) (.node (e135 P) (.node (e263 P) .nil .nil) .nil) (.node (e199 P) .nil .nil)) (.node (e103 P) (.node (e167 P) (.node (e295 P) .nil .nil) .nil) (.node (e231 P) .nil .nil))) (.node (e55 P) (.node (e87 P) (.node (e151 P) (.node (e279 P) .nil .nil) .nil) (.node (e215 P) .nil .nil)) (.node (e119 P) (.node (e183 P) (.node (e311 P) .nil .nil) .nil) (.node (e247 P) .nil .nil))))) (.node (e11 P) (.node (e19 P) (.node (e35 P) (.node (e67 P) (.node (e131 P) (.node (e259 P) .nil .nil) .nil) (.node (e195 P) .nil .nil)) (.node (e99 P) (.node (e163 P) (.node (e291 P) .nil .nil) .nil) (.node (e227 P) .nil .nil))) (.node (e51 P) (.node (e83 P) (.node (e147 P) (.node (e275 P) .nil .nil) .nil) (.node (e211 P) .nil .nil)) (.node (e115 P) (.node (e179 P) (.node (e307 P) .nil .nil) .nil) (.node (e243 P) .nil .nil)))) (.node (e27 P) (.node (e43 P) (.node (e75 P) (.node (e139 P) (.node (e267 P) .nil .nil) .nil) (.node (e203 P) .nil .nil)) (.node (e107 P) (.node (e171 P) (.node (e299 P) .nil .nil) .nil) (.node (e235 P) .nil .nil))) (.node (e59 P) (.node (e91 P) (.node (e155 P) (.node (e283 P) .nil .nil) .nil) (.node (e219 P) .nil .nil)) (.node (e123 P) (.node (e187 P) (.node (e315 P) .nil .nil) .nil) (.node (e251 P) .nil .nil)))))) (.node (boot_o_5 P) (.node (boot_o_9 P) (.node (e17 P) (.node (e33 P) (.node (e65 P) (.node (e129 P) (.node (e257 P) .nil .nil) .nil) (.node (e193 P) .nil .nil)) (.node (e97 P) (.node (e161 P) (.node (e289 P) .nil .nil) .nil) (.node (e225 P) .nil .nil))) (.node (e49 P) (.node (e81 P) (.node (e145 P) (.node (e273 P) .nil .nil) .nil) (.node (e209 P) .nil .nil)) (.node (e113 P) (.node (e177 P) (.node (e305 P) .nil .nil) .nil) (.node (e241 P) .nil .nil)))) (.node (e25 P) (.node (e41 P) (.node (e73 P) (.node (e137 P) (.node (e265 P) .nil .nil) .nil) (.node (e201 P) .nil .nil)) (.node (e105 P) (.node (e169 P) (.node (e297 P) .nil .nil) .nil) (.node (e233 P) .nil .nil))) (.node (e57 P) (.node (e89 P) (.node (e153 P) (.node (e281 P) .nil .nil) .nil) (.node (e217 P) .nil .nil)) (.node (e121 P) (.node (e185 P) (.node (e313 P) .nil .nil) .nil) (.node (e249 P) .nil .nil))))) (.node (e13 P) (.node (e21 P) (.node (e37 P) (.node (e69 P) (.node (e133 P) (.node (e261 P) .nil .nil) .nil) (.node (e197 P) .nil .nil)) (.node (e101 P) (.node (e165 P) (.node (e293 P) .nil .nil) .nil) (.node (e229 P) .nil .nil))) (.node (e53 P) (.node (e85 P) (.node (e149 P) (.node (e277 P) .nil .nil) .nil) (.node (e213 P) .nil .nil)) (.node (e117 P) (.node (e181 P) (.node (e309 P) .nil .nil) .nil) (.node (e245 P) .nil .nil)))) (.node (e29 P) (.node (e45 P) (.node (e77 P) (.node (e141 P) (.node (e269 P) .nil .nil) .nil) (.node (e205 P) .nil .nil)) (.node (e109 P) (.node (e173 P) (.node (e301 P) .nil .nil) .nil) (.node (e237 P) .nil .nil))) (.node (e61 P) (.node (e93 P) (.node (e157 P) (.node (e285 P) .nil .nil) .nil) (.node (e221 P) .nil .nil)) (.node (e125 P) (.node (e189 P) .nil .nil) (.node (e253 P) .nil .nil))))))) (.node (e2 P) (.node (boot_o_4 P) (.node (boot_o_8 P) (.node (e16 P) (.node (e32 P) (.node (e64 P) (.node (e128 P) (.node (e256 P) .nil .nil) .nil) (.node (e192 P) .nil .nil)) (.node (e96 P) (.node (e160 P) (.node (e288 P) .nil .nil) .nil) (.node (e224 P) .nil .nil))) (.node (e48 P) (.node (e80 P) (.node (e144 P) (.node (e272 P) .nil .nil) .nil) (.node (e208 P) .nil .nil)) (.node (e112 P) (.node (e176 P) (.node (e304 P) .nil .nil) .nil) (.node (e240 P) .nil .nil)))) (.node (e24 P) (.node (e40 P) (.node (e72 P) (.node (e136 P) (.node (e264 P) .nil .nil) .nil) (.node (e200 P) .nil .nil)) (.node (e104 P) (.node (e168 P) (.node (e296 P) .nil .nil) .nil) (.node (e232 P) .nil .nil))) (.node (e56 P) (.node (e88 P) (.node (e152 P) (.node (e280 P) .nil .nil) .nil) (.node (e216 P) .nil .nil)) (.node (e120 P) (.node (e184 P) (.node (e312 P) .nil .nil) .nil) (.node (e248 P) .nil .nil))))) (.node (e12 P) (.node (e20 P) (.node (e36 P) (.node (e68 P) (.node (e132 P) (.node (e260 P) .nil .nil) .nil) (.node (e196 P) .nil .nil)) (.node (e100 P) (.node (e164 P) (.node (e292 P) .nil .nil) .nil) (.node (e228 P) .nil .nil))) (.node (e52 P) (.node (e84 P) (.node (e148 P) (.node (e276 P) .nil .nil) .nil) (.node (e212 P) .nil .nil)) (.node (e116 P) (.node (e180 P) (.node (e308 P) .nil .nil) .nil) (.node (e244 P) .nil .nil)))) (.node (e28 P) (.node (e44 P) (.node (e76 P) (.node (e140 P) (.node (e268 P) .nil .nil) .nil) (.node (e204 P) .nil .nil)) (.node (e108 P) (.node (e172 P) (.node (e300 P) .nil .nil) .nil) (.node (e236 P) .nil .nil))) (.node (e60 P) (.node (e92 P) (.node (e156 P) (.node (e284 P) .nil .nil) .nil) (.node (e220 P) .nil .nil)) (.node (e124 P) (.node (e188 P) .nil .nil) (.node (e252 P) .nil .nil)))))) (.node (boot_o_6 P) (.node (boot_o_10 P) (.node (e18 P) (.node (e34 P) (.node (e66 P) (.node (e130 P) (.node (e258 P) .nil .nil) .nil) (.node (e194 P) .nil .nil)) (.node (e98 P) (.node (e162 P) (.node (e290 P) .nil .nil) .nil) (.node (e226 P) .nil .nil))) (.node (e50 P) (.node (e82 P) (.node (e146 P) (.node (e274 P) .nil .nil) .nil) (.node (e210 P) .nil .nil)) (.node (e114 P) (.node (e178 P) (.node (e306 P) .nil .nil) .nil) (.node (e242 P) .nil .nil)))) (.node (e26 P) (.node (e42 P) (.node (e74 P) (.node (e138 P) (.node (e266 P) .nil .nil) .nil) (.node (e202 P) .nil .nil)) (.node (e106 P) (.node (e170 P) (.node (e298 P) .nil .nil) .nil) (.node (e234 P) .nil .nil))) (.node (e58 P) (.node (e90 P) (.node (e154 P) (.node (e282 P) .nil .nil) .nil) (.node (e218 P) .nil .nil)) (.node (e122 P) (.node (e186 P) (.node (e314 P) .nil .nil) .nil) (.node (e250 P) .nil .nil))))) (.node (e14 P) (.node (e22 P) (.node (e38 P) (.node (e70 P) (.node (e134 P) (.node (e262 P) .nil .nil) .nil) (.node (e198 P) .nil .nil)) (.node (e102 P) (.node (e166 P) (.node (e294 P) .nil .nil) .nil) (.node (e230 P) .nil .nil))) (.node (e54 P) (.node (e86 P) (.node (e150 P) (.node (e278 P) .nil .nil) .nil) (.node (e214 P) .nil .nil)) (.node (e118 P) (.node (e182 P) (.node (e310 P) .nil .nil) .nil) (.node (e246 P) .nil .nil)))) (.node (e30 P) (.node (e46 P) (.node (e78 P) (.node (e142 P) (.node (e270 P) .nil .nil) .nil) (.node (e206 P) .nil .nil)) (.node (e110 P) (.node (e174 P) (.node (e302 P) .nil .nil) .nil) (.node (e238 P) .nil .nil))) (.node (e62 P) (.node (e94 P) (.node (e158 P) (.node (e286 P) .nil .nil) .nil) (.node (e222 P) .nil .nil)) (.node (e126 P) (.node (e190 P) .nil .nil) (.node (e254 P) .nil .nil)))))))
noncomputable abbrev hP : Program := PySem.Challenge.rw_xm0950_01.row.prog
noncomputable def endS (w : World) (os : OsState) : Shared := ⟨absHeap (endT w.params) 316 {}, Array.mk [], boot_drawn, 621, os⟩
theorem hrun : ∀ w : World, (fun os => runQ hP w 11 (some (.ref 6)) 4348 ⟨bootT w.params, 11, {}, Array.mk [], boot_drawn, boot_toks, os⟩ (topStub hP)) = fun os => some ⟨endT w.params, 316, {}, Array.mk [], boot_drawn, 621, os⟩ := fun w => by kernel_rfl
theorem look1 : ∀ w : World, (fun os => staticsOk (importedModules hP.main.body) (absHeap (bootT w.params) 11 {}) (endS w os).heap && namesBound hP (endS w os).heap && gensDone (endS w os) && laidKept (absHeap (bootT w.params) 11 {}) (endS w os).heap) = fun _ => true := fun w => by kernel_rfl
theorem look2 : ∀ w : World, (fun os => Fast.tw4187177175401517315 hv [Str.ofString "SnobolError"] (importedModules hP.main.body) (fun s => xlAt hv [] s && recOk (RowW.records PySem.Challenge.rw_xm0950_01.row.toRowW) s) true (endS w os)) = fun _ => openGood hv [Str.ofString "SnobolError"] := fun w => by kernel_rfl
theorem look3 : ∀ w : World, (fun os => (kHook hK hL hKe).obs (endS w os)) = fun _ => (kHook hK hL hKe).val w := fun w => by kernel_rfl
theorem left_by {p q : Program} {loose : List Str} {Xt : Shared → Bool} {α : Type} {Yf : Shared → α} {Ya : World → α} {N : Nat} {g0 : Bool} {T₀ T₁ : Params → BT} {n₀ n₁ : Nat} {d₀ d₁ : Drawn} {k₀ k₁ : Nat} {ann : Option Value} {S : World → OsState → Shared}
    (open_ : ∀ w : World, (fencedOpening treeTable p w N).map (fun s => (s.heap, s.gens, s.drawn, s.toks)) = some (absHeap (T₀ w.params) n₀ {}, Array.mk [], d₀, k₀))
    (size : ∀ w : World, ((absHeap (T₀ w.params) n₀ {}).isNs mainGlobals && (Array.mk [] : Array GenState).size == 0, (absHeap (T₀ w.params) n₀ {}).objs.size, (absHeap (T₀ w.params) n₀ {}).nsMap mainGlobals "__annotations__") = (true, n₀, ann))
    (run : ∀ w : World, (fun os => runQ p w n₀ ann N ⟨T₀ w.params, n₀, {}, Array.mk [], d₀, k₀, os⟩ (topStub p)) = fun os => some ⟨T₁ w.params, n₁, {}, Array.mk [], d₁, k₁, os⟩)
    (hS : S = fun w os => ⟨absHeap (T₁ w.params) n₁ {}, Array.mk [], d₁, k₁, os⟩)
    (l1 : ∀ w : World, (fun os => staticsOk (importedModules p.main.body) (absHeap (T₀ w.params) n₀ {}) (S w os).heap && namesBound p (S w os).heap && gensDone (S w os) && laidKept (absHeap (T₀ w.params) n₀ {}) (S w os).heap) = fun _ => true)
    (l2 : ∀ w : World, (fun os => Fast.tw4187177175401517315 q loose (importedModules p.main.body) Xt g0 (S w os)) = fun _ => openGood q loose)
    (l3 : ∀ w : World, (fun os => Yf (S w os)) = fun _ => Ya w) : LeftO p q loose Xt Yf Ya N g0 := by
  subst hS
  rw [← Fast.te4187177175401517315] at l2
  exact LeftO.of_pieces (H₀ := fun P => absHeap (T₀ P) n₀ {}) (H₁ := fun P => absHeap (T₁ P) n₁ {}) (gs₁ := Array.mk []) (d₁ := d₁) (k₁ := k₁) (M := N) open_ size (fun w os => runQ_of (congrFun (run w) os)) (Nat.ble_eq_true_of_le (Nat.le_refl N))
    fun w => funext fun os => looks_pair (congrFun (l1 w) os) (looks_pair (congrFun (l2 w) os) (congrFun (l3 w) os))
theorem hleft : LeftO PySem.Challenge.rw_xm0950_01.row.prog hv [Str.ofString "SnobolError"] (fun s => xlAt hv [] s && recOk (RowW.records PySem.Challenge.rw_xm0950_01.row.toRowW) s) (kHook hK hL hKe).obs (kHook hK hL hKe).val 4348 :=
  left_by (T₀ := bootT) (T₁ := endT) (S := endS) hopen hsize hrun rfl look1 look2 look3
theorem hwit : PySem.Challenge.rw_xm0950_01.row.toRowW.promised := by w_on; w_witness2
theorem hd {d : DefRec} {kwd : List (Str × PySem.Expr)} (hdef : defOf hv PySem.Challenge.rw_xm0950_01.row.name = some (d, kwd))
    (hp : PySem.Challenge.rw_xm0950_01.row.prog.theDef PySem.Challenge.rw_xm0950_01.row.name = some (d.params, d.body, d.scope)) (hk : kwWritten? d.params.kwonlyargs d.params.kw_defaults = some kwd)
    (walk : WalkO hv [Str.ofString "SnobolError"] (XL hv []) (kHook hK hL hKe).says PySem.Challenge.rw_xm0950_01.row.toRowW d kwd fun f vs => PySem.call f vs) : PySem.Challenge.rw_xm0950_01.Holds :=
  holds_law hsaid fun said => holds_open (q := hv) (loose := [Str.ofString "SnobolError"]) (Xt := fun s => xlAt hv [] s && recOk (RowW.records PySem.Challenge.rw_xm0950_01.row.toRowW) s) (XP := XL hv []) (Yf := (kHook hK hL hKe).obs) (Ya := (kHook hK hL hKe).val) (YP := (kHook hK hL hKe).says) (N := 4348)
    hleft (kHook hK hL hKe).of (kHook hK hL hKe).keeps (fun s e => xl_of s (Bool.and_eq_true_iff.mp e).1) XL.keeps hdef hp hk (fun s e => recFacts_of (Bool.and_eq_true_iff.mp e).2) (by rfl) said (by decide +kernel) ⟨rfl, rfl, rfl, rfl, rfl, by decide +kernel⟩ hwit walk
/-- the function at f, called with vs from a def's frame, gives back R and keeps the ledger -/
def Con (mean : ExcName → Option Value) (mg mb : Str → Option Value) (w : World) (f : Addr) (D : Nat) (Pre : List (Addr × Obj) → Prop) (vs : List Value) (R : Tok → Value) : Prop :=
  ∀ (dp un : Nat) (gd : Option (List Code)) (cn : Str) (cs : Scope) (a : Addr) (ccd : Value) (cl : List (Str × Addr)) (outer : List Env) (A₀ : Around) (base h₀ : Heap) (L : Addr) (m : Str → Option Value) (news : List (Addr × Obj)) (s : Shared) (Q E : Value → Shared → Prop),
    Below A₀ base outer h₀ → Fr h₀ L s.heap m → (hK w.params).In h₀ → News h₀ L s.heap news → Top hv (looseW hv [Str.ofString "SnobolError"]) mean mg mb h₀ → cs.kind = .function →
    Pre news → dp + D < recursionLimit → un + 8 * D < cLine →
    (∀ (t : Tok) (h' : Heap) (tk' : Nat), Fr h₀ L h' m → News h₀ L h' news → Q (R t) { s with heap := h', toks := tk' }) →
    wpAny (model PySem.Challenge.rw_xm0950_01.row.prog w) (ktrTop dp un gd cn cs L a ccd cl outer) (call (.ref f) vs) Q E s

theorem con_use {mean : ExcName → Option Value} {mg mb : Str → Option Value} {w : World} {f : Addr} {D : Nat} {Pre : List (Addr × Obj) → Prop} {vs : List Value} {R : Tok → Value}
    {dp un : Nat} {gd : Option (List Code)} {cn : Str} {cs : Scope} {a : Addr} {ccd : Value} {cl : List (Str × Addr)} {outer : List Env} {A₀ : Around} {base h₀ : Heap} {L : Addr} {m : Str → Option Value} {news : List (Addr × Obj)} {s : Shared} {Q E : Value → Shared → Prop}
    (C : Con mean mg mb w f D Pre vs R) (B : Below A₀ base outer h₀) (F : Fr h₀ L s.heap m) (X : (hK w.params).In h₀) (N : News h₀ L s.heap news) (T : Top hv (looseW hv [Str.ofString "SnobolError"]) mean mg mb h₀) (hk : cs.kind = .function)
    (hp : Pre news) (hd : dp + D < recursionLimit) (hu : un + 8 * D < cLine)
    (ret : ∀ (t : Tok) (h' : Heap) (tk' : Nat), Fr h₀ L h' m → News h₀ L h' news → Q (R t) { s with heap := h', toks := tk' }) :
    wpAny (model PySem.Challenge.rw_xm0950_01.row.prog w) (ktrTop dp un gd cn cs L a ccd cl outer) (call (.ref f) vs) Q E s :=
  C _ _ _ _ _ _ _ _ _ _ _ _ _ _ _ _ _ _ B F X N T hk hp hd hu ret

theorem con_end {h₀ h' : Heap} {L : Addr} {m : Str → Option Value} {news : List (Addr × Obj)} {s : Shared} {Q : Value → Shared → Prop} {tk' : Nat} {R : Tok → Value} {v : Value}
    (hret : ∀ (t : Tok) (h' : Heap) (tk' : Nat), Fr h₀ L h' m → News h₀ L h' news → Q (R t) { s with heap := h', toks := tk' }) (t : Tok) (e : v = R t) (F : Fr h₀ L h' m) (N : News h₀ L h' news) : Q v { s with heap := h', toks := tk' } := by
  subst e
  exact hret t h' tk' F N
theorem con_tail {h₀ h : Heap} {L : Addr} {p : Addr × Obj} {l : List (Addr × Obj)} (N : News h₀ L h (p :: l)) : News h₀ L h l := fun q hq => N q (List.mem_cons_of_mem _ hq)

local macro_rules | `(tactic| walk_at "m1") => `(tactic| ((case k1 | k2 | k3 | k4 | k5 => k_asm); (case kK => first | assumption | exact rfl)))
local macro_rules | `(tactic| walk_at "m2") => `(tactic| ((case kd => first | exact Nat.le_of_ble_eq_true rfl | ktr_room); (case ku => first | exact Nat.le_of_ble_eq_true rfl | ktr_units); intro t9 h9 tk9 F9 N9; (try dsimp only); (try k_fold)))
local macro_rules | `(tactic| walk_at "m3") => `(tactic| first | with_reducible assumption | assumption | omega | (simp; omega))
local macro_rules | `(tactic| walk_at "m4") => `(tactic| (case m1 | m2 => k_mem); (case m3 | m4 => assumption))
local macro_rules | `(tactic| walk_at "m5") => `(tactic| (refine' ⟨⟨_, _, _, _, _, _, ?m1, ?m2, ?m3, ?m4⟩, _, ?m5⟩; walk_at "m4"; (case m5 => k_mem)))
local macro_rules | `(tactic| walk_at "call ref") => `(tactic| (k_here; k_dflt (refine wpAny_call ?_; refine' code_def ?k1 ?k2 ?k3 ?k4 ?k5 ?kA ?kF ?kK ?k6 ?k7 ?k8 ?k9 ?kB ?_ ?c2 ?c3 ?c4 ?c5; (case kA | kF => exact rfl); (case kK => first | assumption | exact rfl); (case k1 | k2 | k3 | k4 | k5 => k_asm); (case k6 | k7 => k_is); (case k8 => ktr_room); (case k9 => exact BindsTo.of_eq rfl); (case c5 => decide); (case kB => exact locs rfl); (case c2 | c3 | c4 => exact rfl); k_whole; intro g' L' h' FG' F' N' B' X' T'; (try dsimp only); (try k_lift B'); (try k_fold))))

section
variable {mean : ExcName → Option Value} {mg mb : Str → Option Value} {w : World}
set_option maxHeartbeats 8000000 in
theorem need_text_con (x : Str) (tx : Tok) : Con mean mg mb w 156 2 (fun _ => True) [.str x tx] (fun _ => .str x tx) := by
  unfold Con
  k_fill
  intro dp un gd cn cs a ccd cl outer A₀ base h₀ L m news s Q E B F X N T hk hpre hdp hun hret
  refine wpAny_call ?_
  k_dflt cell_enter
  k_steps
  all_goals (refine con_end hret 0 rfl ?_ ?_ <;> k_asm)

set_option maxHeartbeats 8000000 in
theorem need_whole_con (x y : Int) (tx ty : Tok) : Con mean mg mb w 149 2 (fun _ => True) [.int x tx, .int y ty] (fun _ => .int x tx) := by
  unfold Con
  k_fill
  intro dp un gd cn cs a ccd cl outer A₀ base h₀ L m news s Q E B F X N T hk hpre hdp hun hret
  refine wpAny_call ?_
  k_dflt cell_enter
  k_steps
  all_goals (refine con_end hret 0 rfl ?_ ?_ <;> k_asm)

end
def WIn (news : List (Addr × Obj)) (aW : Addr) : Prop := ∃ dW sl es n tw tm, (aW, (⟨.ref 217, some dW, .plain, sl⟩ : Obj)) ∈ news ∧ (dW, dictOf es n) ∈ news ∧
  getL (Str.ofString "width") es = some (some (.int 32 tw)) ∧ getL (Str.ofString "most_length") es = some (some (.int 5000 tm))
theorem con_news {h₀ h : Heap} {L : Addr} {l l' : List (Addr × Obj)} (N : News h₀ L h l) (hs : ∀ p ∈ l', p ∈ l) : News h₀ L h l' := fun p hp => N p (hs p hp)
theorem cons_in {p : Addr × Obj} {l : List (Addr × Obj)} (h : p ∈ l) : ∀ q ∈ p :: l, q ∈ l := by
  intro q hq; rcases List.mem_cons.mp hq with rfl | hq <;> assumption
theorem cons3_in {p q r : Addr × Obj} {l : List (Addr × Obj)} (hp : p ∈ l) (hq : q ∈ l) (hr : r ∈ l) : ∀ x ∈ p :: q :: r :: l, x ∈ l := by
  intro x hx; simp only [List.mem_cons] at hx; rcases hx with rfl | rfl | rfl | hx <;> assumption

local macro_rules | `(tactic| walk_at "call ref") => `(tactic| (k_here; k_dflt ((first | (refine' con_use (need_text_con _ _) ?k1 ?k2 ?k3 ?k4 ?k5 ?kK ?kp ?kd ?ku ?_) | (refine' con_use (need_whole_con _ _ _ _) ?k1 ?k2 ?k3 ?k4 ?k5 ?kK ?kp ?kd ?ku ?_)); walk_at "m1"; (case kp => exact trivial); walk_at "m2")))
local macro_rules | `(tactic| walk_at "getAttr ref") => `(tactic| (k_here; k_dflt (refine' get_own ?k1 ?k2 ?k3 ?k4 ?k5 ?k6 ?k7 ?k8 ?k9 ?_; (case k1 | k2 => k_asm); (case k3 => k_inst); (case k4 | k5 | k6 | k7 => k_is); (case k8 => assumption); (case k9 => k_handed); k_whole)))

section
variable {mean : ExcName → Option Value} {mg mb : Str → Option Value} {w : World}
set_option maxHeartbeats 8000000 in
theorem text_substr_con (aW aL : Addr) (x : Str) (b k : Int) (tx tb tk : Tok) (hb : 1 ≤ b) (hk1 : 1 ≤ k) (hx : b - 1 + k ≤ (x.length : Int)) (hl : x.length ≤ 5000) :
    Con mean mg mb w 298 3 (fun news => WIn news aW ∧ ∃ n, (aL, listOf #[.str x tx, .int b tb, .int k tk] n) ∈ news) [.ref aW, .ref aL] (fun t => .str (Txt.slice x (some (b - 1)) (some (b - 1 + k))) t) := by
  unfold Con
  k_fill
  intro dp un gd cn cs a ccd cl outer A₀ base h₀ L m news s Q E B F X N' T hkk hpre hdp hun hret
  obtain ⟨⟨dW, sl, es, n, tw, tm, hW1, hW2, hgw, hgm⟩, nL, hL⟩ := hpre
  have N := con_news N' (cons3_in hW1 hW2 hL)
  clear N'
  refine wpAny_call ?_
  k_dflt cell_enter
  k_steps
  all_goals first
    | (exfalso; simp only [decide_eq_true_eq] at *; omega)
    | (refine con_end hret _ rfl (by k_asm) (con_news (by k_asm) fun p hp => by simp only [List.mem_cons]; simp [hp]))

end
section
variable {mean : ExcName → Option Value} {mg mb : Str → Option Value} {w : World}
set_option maxHeartbeats 8000000 in
theorem text_dupl_con (aW aL : Addr) (x : Str) (k : Int) (tx tk : Tok) (hk0 : 0 ≤ k) (hk2 : k ≤ 2) (hl : x.length ≤ 1000) :
    Con mean mg mb w 284 3 (fun news => WIn news aW ∧ ∃ n, (aL, listOf #[.str x tx, .int k tk] n) ∈ news) [.ref aW, .ref aL] (fun t => .str (Txt.mul x k) t) := by
  unfold Con
  k_fill
  intro dp un gd cn cs a ccd cl outer A₀ base h₀ L m news s Q E B F X N' T hkk hpre hdp hun hret
  obtain ⟨⟨dW, sl, es, n, tw, tm, hW1, hW2, hgw, hgm⟩, nL, hL⟩ := hpre
  have N := con_news N' (cons3_in hW1 hW2 hL)
  clear N'
  have hok : MulOk x k := mulOk_of 1000 2 hl (by omega) (by omega) (by decide) (by decide)
  have hm : (x.length : Int) * k ≤ 5000 := by
    have h2 : (x.length : Int) * k ≤ (x.length : Int) * 2 := Int.mul_le_mul_of_nonneg_left hk2 (by omega)
    omega
  refine wpAny_call ?_
  k_dflt cell_enter
  k_steps
  all_goals first
    | (refine con_end hret 0 rfl (by k_asm) (con_news (by k_asm) fun p hp => by first | exact hp | (simp only [List.mem_cons]; simp [hp])))
    | (refine con_end hret _ rfl (by k_asm) (con_news (by k_asm) fun p hp => by first | exact hp | (simp only [List.mem_cons]; simp [hp])))
    | (exfalso; simp only [decide_eq_true_eq] at *; omega)
    | (exfalso; simp_all; done)

end
section
variable {mean : ExcName → Option Value} {mg mb : Str → Option Value} {w : World}
set_option maxHeartbeats 8000000 in
theorem text_size_con (aW aL : Addr) (x : Str) (tx : Tok) (hl : x.length ≤ 5000) :
    Con mean mg mb w 277 3 (fun news => ∃ n, (aL, listOf #[.str x tx] n) ∈ news) [.ref aW, .ref aL] (fun t => .int x.length t) := by
  unfold Con
  k_fill
  intro dp un gd cn cs a ccd cl outer A₀ base h₀ L m news s Q E B F X N' T hkk hpre hdp hun hret
  obtain ⟨nL, hL⟩ := hpre
  have N := con_news N' (cons3_in hL hL hL)
  clear N'
  refine wpAny_call ?_
  k_dflt cell_enter
  k_steps
  all_goals first
    | (refine con_end hret 0 rfl (by k_asm) (con_news (by k_asm) fun p hp => by first | exact hp | (simp only [List.mem_cons]; simp [hp])))
    | (refine con_end hret _ rfl (by k_asm) (con_news (by k_asm) fun p hp => by first | exact hp | (simp only [List.mem_cons]; simp [hp])))
    | (exfalso; simp only [decide_eq_true_eq] at *; omega)
    | (exfalso; simp_all; done)
set_option maxHeartbeats 8000000 in
theorem text_reverse_con (aW aL : Addr) (x : Str) (tx : Tok) (hl : x.length ≤ 5000) :
    Con mean mg mb w 291 3 (fun news => ∃ n, (aL, listOf #[.str x tx] n) ∈ news) [.ref aW, .ref aL] (fun t => .str (Txt.sliceBy x none none (-1, 0)) t) := by
  unfold Con
  k_fill
  intro dp un gd cn cs a ccd cl outer A₀ base h₀ L m news s Q E B F X N' T hkk hpre hdp hun hret
  obtain ⟨nL, hL⟩ := hpre
  have N := con_news N' (cons3_in hL hL hL)
  clear N'
  refine wpAny_call ?_
  k_dflt cell_enter
  k_steps
  all_goals first
    | (refine con_end hret 0 rfl (by k_asm) (con_news (by k_asm) fun p hp => by first | exact hp | (simp only [List.mem_cons]; simp [hp])))
    | (refine con_end hret _ rfl (by k_asm) (con_news (by k_asm) fun p hp => by first | exact hp | (simp only [List.mem_cons]; simp [hp])))
    | (exfalso; simp only [decide_eq_true_eq] at *; omega)
    | (exfalso; simp_all; done)

end
section
variable {mean : ExcName → Option Value} {mg mb : Str → Option Value} {w : World}
set_option maxHeartbeats 8000000 in
theorem join_values_con (aW : Addr) (x y : Str) (tx ty : Tok) (hx : x ≠ Str.ofString "") (hy : y ≠ Str.ofString "") (hl : x.length + y.length ≤ 5000) :
    Con mean mg mb w 256 3 (fun news => WIn news aW) [.ref aW, .str x tx, .str y ty] (fun t => .str (x ++ y) t) := by
  unfold Con
  k_fill
  intro dp un gd cn cs a ccd cl outer A₀ base h₀ L m news s Q E B F X N' T hkk hpre hdp hun hret
  obtain ⟨dW, sl, es, n, tw, tm, hW1, hW2, hgw, hgm⟩ := hpre
  have N := con_news N' (cons3_in hW1 hW2 hW2)
  clear N'
  refine wpAny_call ?_
  k_dflt cell_enter
  k_steps
  all_goals first
    | (refine con_end hret 0 rfl (by k_asm) (con_news (by k_asm) fun p hp => by first | exact hp | (simp only [List.mem_cons]; simp [hp])))
    | (refine con_end hret _ rfl (by k_asm) (con_news (by k_asm) fun p hp => by first | exact hp | (simp only [List.mem_cons]; simp [hp])))
    | (exfalso; simp only [decide_eq_true_eq] at *; omega)
    | (exfalso; simp_all; done)

end
section
variable {mean : ExcName → Option Value} {mg mb : Str → Option Value} {w : World}
set_option maxHeartbeats 8000000 in
theorem divided_con (g l : Int) (tg tl : Tok) (hg0 : 0 ≤ g) (hg : g ≤ 5000) (hl0 : 0 < l) (hl1 : l ≤ 5000) :
    Con mean mg mb w 235 2 (fun news => True) [.int g tg, .int l tl] (fun t => .int (Int.fdiv g l) t) := by
  unfold Con
  k_fill
  intro dp un gd cn cs a ccd cl outer A₀ base h₀ L m news s Q E B F X N' T hkk hpre hdp hun hret
  have N := N'
  clear N'
  refine wpAny_call ?_
  k_dflt cell_enter
  k_steps
  all_goals first
    | (dsimp only at hret; refine cb_retI hret ?e (by k_asm) (con_news (by k_asm) fun p hp => by first | exact hp | (simp only [List.mem_cons]; simp [hp])); (case e => rw [if_neg (by omega), if_neg (by omega)]); done)
    | (exfalso; rename (decide _ == decide _) = false => hq; rw [decide_eq_false (show ¬ g < 0 by omega), decide_eq_false (show ¬ l < 0 by omega)] at hq; cases hq; done)
    | (exfalso; simp only [decide_eq_true_eq] at *; omega)
    | (exfalso; omega)
set_option maxHeartbeats 8000000 in
theorem fits_con (g : Int) (tg tw : Tok) (hg0 : 0 ≤ g) (hg : g ≤ 5000) :
    Con mean mg mb w 114 2 (fun news => True) [.int g tg, .int 32 tw] (fun t => .bool true) := by
  unfold Con
  k_fill
  intro dp un gd cn cs a ccd cl outer A₀ base h₀ L m news s Q E B F X N' T hkk hpre hdp hun hret
  have N := N'
  clear N'
  refine wpAny_call ?_
  k_dflt cell_enter
  k_steps
  all_goals (have hp31 : (1 * 2 ^ (32 - 1 : Int).toNat : Int) = 2147483648 := by decide)
  all_goals first
    | (refine con_end hret 0 ?e (by k_asm) (con_news (by k_asm) fun p hp => by first | exact hp | (simp only [List.mem_cons]; simp [hp])); (case e => exact congrArg Value.bool (decide_eq_true (by omega))); done)
    | (refine con_end hret 0 ?e (by k_asm) (con_news (by k_asm) fun p hp => by first | exact hp | (simp only [List.mem_cons]; simp [hp])); (case e => rfl); done)
    | (exfalso; omega)

end
local macro_rules | `(tactic| walk_at "call ref") => `(tactic| (k_here; k_dflt ((refine' con_use (divided_con _ _ _ _ (by omega) (by omega) (by omega) (by omega)) ?k1 ?k2 ?k3 ?k4 ?k5 ?kK ?kp ?kd ?ku ?_); walk_at "m1"; (case kp => exact trivial); walk_at "m2")))
local macro_rules | `(tactic| walk_at "call ref") => `(tactic| (k_here; k_dflt ((refine' con_use (fits_con _ _ _ (by omega) (by omega)) ?k1 ?k2 ?k3 ?k4 ?k5 ?kK ?kp ?kd ?ku ?_); walk_at "m1"; (case kp => exact trivial); walk_at "m2")))
section
variable {mean : ExcName → Option Value} {mg mb : Str → Option Value} {w : World}
set_option maxHeartbeats 8000000 in
theorem remainder_con (g l : Int) (tg tl : Tok) (hg0 : 0 ≤ g) (hg : g ≤ 5000) (hl0 : 0 < l) (hl1 : l ≤ 5000) :
    Con mean mg mb w 242 4 (fun news => True) [.int g tg, .int l tl] (fun t => .int (g - l * (Int.fdiv g l)) t) := by
  unfold Con
  k_fill
  intro dp un gd cn cs a ccd cl outer A₀ base h₀ L m news s Q E B F X N' T hkk hpre hdp hun hret
  have N := N'
  clear N'
  refine wpAny_call ?_
  k_dflt cell_enter
  k_steps
  all_goals first
    | (refine con_end hret 0 rfl (by k_asm) (con_news (by k_asm) fun p hp => by first | exact hp | (simp only [List.mem_cons]; simp [hp])))
    | (refine con_end hret _ rfl (by k_asm) (con_news (by k_asm) fun p hp => by first | exact hp | (simp only [List.mem_cons]; simp [hp])))
    | (exfalso; simp only [decide_eq_true_eq] at *; omega)
    | (exfalso; simp_all; done)
set_option maxHeartbeats 8000000 in
theorem checked_whole_con (g : Int) (tg tw : Tok) (hg0 : 0 ≤ g) (hg : g ≤ 5000) :
    Con mean mg mb w 163 4 (fun news => True) [.int g tg, .int 32 tw] (fun t => .int g tg) := by
  unfold Con
  k_fill
  intro dp un gd cn cs a ccd cl outer A₀ base h₀ L m news s Q E B F X N' T hkk hpre hdp hun hret
  have N := N'
  clear N'
  refine wpAny_call ?_
  k_dflt cell_enter
  k_steps
  all_goals first
    | (refine con_end hret 0 rfl (by k_asm) (con_news (by k_asm) fun p hp => by first | exact hp | (simp only [List.mem_cons]; simp [hp])))
    | (refine con_end hret _ rfl (by k_asm) (con_news (by k_asm) fun p hp => by first | exact hp | (simp only [List.mem_cons]; simp [hp])))
    | (exfalso; simp only [decide_eq_true_eq] at *; omega)
    | (exfalso; simp_all; done)

end
local macro_rules | `(tactic| walk_at "call ref") => `(tactic| (k_here; k_dflt ((refine' con_use (remainder_con _ _ _ _ (by walk_at "m3") (by walk_at "m3") (by walk_at "m3") (by walk_at "m3")) ?k1 ?k2 ?k3 ?k4 ?k5 ?kK ?kp ?kd ?ku ?_); walk_at "m1"; (case kp => exact trivial); walk_at "m2")))
local macro_rules | `(tactic| walk_at "call ref") => `(tactic| (k_here; k_dflt ((refine' con_use (checked_whole_con _ _ _ (by walk_at "m3") (by walk_at "m3")) ?k1 ?k2 ?k3 ?k4 ?k5 ?kK ?kp ?kd ?ku ?_); walk_at "m1"; (case kp => exact trivial); walk_at "m2")))
section
variable {mean : ExcName → Option Value} {mg mb : Str → Option Value} {w : World}
set_option maxHeartbeats 8000000 in
theorem whole_remdr_con (aW aL : Addr) (g l : Int) (tg tl : Tok) (hg0 : 0 ≤ g) (hg : g ≤ 5000) (hl0 : 0 < l) (hl1 : l ≤ 5000) :
    Con mean mg mb w 305 6 (fun news => WIn news aW ∧ ∃ n, (aL, listOf #[.int g tg, .int l tl] n) ∈ news) [.ref aW, .ref aL] (fun t => .int (g - l * (Int.fdiv g l)) t) := by
  unfold Con
  k_fill
  intro dp un gd cn cs a ccd cl outer A₀ base h₀ L m news s Q E B F X N' T hkk hpre hdp hun hret
  obtain ⟨⟨dW, sl, es, n, tw, tm, hW1, hW2, hgw, hgm⟩, nL, hL⟩ := hpre
  have N := con_news N' (cons3_in hW1 hW2 hL)
  clear N'
  have hb1 : 0 ≤ g - l * (Int.fdiv g l) := by
    have e : Int.fmod g l = g - l * Int.fdiv g l := Int.fmod_def g l
    rw [← e]; exact Int.fmod_nonneg_of_pos g hl0
  have hb2 : g - l * (Int.fdiv g l) ≤ 5000 := by
    have e : Int.fmod g l = g - l * Int.fdiv g l := Int.fmod_def g l
    rw [← e]; have := Int.fmod_lt_of_pos g hl0; omega
  refine wpAny_call ?_
  k_dflt cell_enter
  k_steps
  all_goals first
    | (refine con_end hret 0 rfl (by k_asm) (con_news (by k_asm) fun p hp => by first | exact hp | (simp only [List.mem_cons]; simp [hp])))
    | (refine con_end hret _ rfl (by k_asm) (con_news (by k_asm) fun p hp => by first | exact hp | (simp only [List.mem_cons]; simp [hp])))
    | (exfalso; simp only [decide_eq_true_eq] at *; omega)
    | (exfalso; simp_all; done)

end
/-- the distinct items of a list of texts, in the order of their first places -/
def addNew (σ : List Str) (x : Str) : List Str := if x ∈ σ then σ else σ ++ [x]
def dist (xs : List Str) : List Str := xs.foldl addNew []
theorem dist_snoc (xs : List Str) (x : Str) : dist (xs ++ [x]) = addNew (dist xs) x := by
  unfold dist; rw [List.foldl_append]; rfl
theorem dist_len : ∀ xs : List Str, (dist xs).length ≤ xs.length := by
  have key : ∀ (xs σ : List Str), (xs.foldl addNew σ).length ≤ σ.length + xs.length := by
    intro xs
    induction xs with
    | nil => intro σ; simp
    | cons x xs ih =>
      intro σ
      have h1 := ih (addNew σ x)
      have h2 : (addNew σ x).length ≤ σ.length + 1 := by unfold addNew; split <;> simp
      simp only [List.foldl_cons, List.length_cons]; omega
  intro xs; have := key xs []; simpa [dist] using this

theorem strs_at {vs : List Value} {xs : List Str} (h : StrsAre vs xs) {pre post : List Str} {x : Str} (e : xs = pre ++ x :: post) {v : Value} (hv : vs[pre.length]? = some v) : ∃ t, v = .str x t := by
  obtain ⟨y, t, rfl, hy⟩ := h.item _ _ hv
  subst e
  simp at hy
  exact ⟨t, by rw [hy]⟩

section
variable {prog : Program} {w : World} {A : Around} {R : Result → Shared → Prop}

theorem upd_loop (hh : A.handled = none) {I l S : Addr} (hlI : l ≠ I) (hSI : S ≠ I) (hSl : S ≠ l) {items : Array Value} {xs : List Str} (hs : StrsAre items.toList xs) (hb : xs.length + 1 < scanBound) :
    ∀ (rest pre : List Str) (s : Shared), xs = pre ++ rest → (s.heap.IsListIter I l pre.length ∧ s.heap.IsList l items) →
      s.heap.SetOf (strKind prog w) S (fun k => decide (k ∈ dist pre)) (dist pre).length →
      (∀ h' tk, h'.SetOf (strKind prog w) S (fun k => decide (k ∈ dist xs)) (dist xs).length → (∀ b o, b ≠ S → b ≠ I → s.heap.get? b = some o → h'.get? b = some o) →
        R (.ok (.ret .none)) { s with heap := h', toks := tk }) →
      codeAny (model prog w) A (.builtin "set.update.loop" ⟨[.ref S, .ref I], []⟩) R s := by
  have hh1 : A.in1.handled = none := by simpa using hh
  have W := Walks.list (prog := prog) (w := w) hh1 I l hlI items
  have hlen : items.size = xs.length := by rw [← StrsAre.len_eq hs]; simp
  intro rest
  induction rest with
  | nil =>
    intro pre s hx hit hS hR
    rw [List.append_nil] at hx
    subst hx
    refine codeAny_builtin F.entry_set_update_loop ?_
    rw [Around.under_plainId F.plain_set_update_loop _]
    show wpAny _ A.in1 (pyNext (.ref I) >>= _) _ _ s
    refine wpAny_bind (W.done s _ _ (by rw [hlen]; exact hit) fun h' tk hk => ?_)
    refine wpAny_pure (hR h' tk ?_ fun b o _ hbI e => hk b o (by simp [hbI]) e)
    obtain ⟨o, es, ep, t, ho, more⟩ := hS
    exact ⟨o, es, ep, t, hk S o (by simp [hSI]) ho, more⟩
  | cons x rest ih =>
    intro pre s hx hit hS hR
    have hroom : (dist pre).length + 1 < scanBound := by
      have h1 := dist_len pre
      have h2 : pre.length ≤ xs.length := by rw [hx]; simp
      omega
    refine codeAny_builtin F.entry_set_update_loop ?_
    rw [Around.under_plainId F.plain_set_update_loop _]
    show wpAny _ A.in1 (pyNext (.ref I) >>= _) _ _ s
    have hlt : pre.length < items.size := by rw [hlen, hx]; simp
    refine wpAny_bind (W.item pre.length s _ _ hlt hit fun v h₁ tk₁ hv hit₁ hk₁ => ?_)
    obtain ⟨t, rfl⟩ := strs_at hs hx (v := v) (by rw [Array.getElem?_toList]; exact hv)
    have hS₁ : h₁.SetOf (strKind prog w) S (fun k => decide (k ∈ dist pre)) (dist pre).length := by
      obtain ⟨o, es, ep, tb, ho, more⟩ := hS
      exact ⟨o, es, ep, tb, hk₁ S o (by simp [hSI]) ho, more⟩
    have hkey : (strKind prog w).is x (.str x t) = true := by simp [PySem.strKind, Value.isStrOf]
    show wpAny _ A.in1 (holding [Value.str x t] (setAdd S (.str x t)) >>= _) _ _ _
    refine wpAny_bind (wpAny_holding ?_)
    unfold setAdd
    refine wpAny_holding (wpAny_bind ((strKind prog w).pyHash hkey ?_))
    refine wpAny_setAddHashed_of (knd := strKind prog w) (s := { s with heap := h₁, toks := tk₁ + 1 }) hkey rfl hS₁ hroom fun h₂ hsb hS₂ => ?_
    have hS₃ : h₂.SetOf (strKind prog w) S (fun k => decide (k ∈ dist (pre ++ [x]))) (dist (pre ++ [x])).length := by
      rw [dist_snoc]
      have e1 : (fun k' => decide (k' ∈ dist pre) || decide (k' = x)) = fun k => decide (k ∈ addNew (dist pre) x) := by
        funext k
        unfold addNew
        by_cases hm : x ∈ dist pre
        · rw [if_pos hm]
          by_cases hk : k = x
          · subst hk; simp [hm]
          · simp [hk]
        · rw [if_neg hm]; simp
      have e2 : (if decide (x ∈ dist pre) = true then (dist pre).length else (dist pre).length + 1) = (addNew (dist pre) x).length := by
        unfold addNew
        by_cases hm : x ∈ dist pre <;> simp [hm]
      rw [e1, e2] at hS₂
      exact hS₂
    have hne : ∀ b, b = I ∨ b = l → b ≠ S := by
      rintro b (rfl | rfl) e
      · exact hSI e.symm
      · exact hSl e.symm
    refine wpAny_pure ⟨plainId_quiet F.plain_set_update_loop _, ih (pre ++ [x]) _ (by rw [hx]; simp) ?_ hS₃ fun h' tk hS' hk' => hR h' tk hS' fun b o hbS hbI e => ?_⟩
    · have h3 := W.frame (pre.length + 1) h₁ h₂ hit₁ fun b hb' o e => (hsb.2 b (hne b (by simpa using hb'))).trans e
      simpa using h3
    · exact hk' b o hbS hbI ((hsb.2 b hbS).trans (hk₁ b o (by simp [hbI]) e))

variable {E : Value → Shared → Prop} {s : Shared}
/-- the new empty set that set(..) fills -/
abbrev set0 (led : Bool) : Obj := { cls := .type "set", dict := none, data := .set #[] 0 (.fresh 0 0 led) }

theorem init_strs (hh : A.handled = none) {l : Addr} {items : Array Value} {xs : List Str} (hl : s.heap.IsList l items) (hs : StrsAre items.toList xs) (hb : xs.length + 1 < scanBound) (led : Bool) {Q : Fin → Shared → Prop}
    (h : ∀ h' tk, h'.SetOf (PySem.strKind prog w) s.heap.objs.size (fun k => decide (k ∈ dist xs)) (dist xs).length → (∀ b o, s.heap.get? b = some o → h'.get? b = some o) →
      Q (.done (.ret .none)) { s with heap := h', toks := tk }) :
    wpAny (model prog w) A (Builtin.«set.__init__» ⟨[.ref s.heap.objs.size, .ref l], []⟩) Q E { s with heap := s.heap.push (set0 led) } := by
  obtain ⟨ol, hol, hcl, nl, hdl⟩ := hl
  obtain ⟨ocls, odict, odata, oslots⟩ := ol
  simp only at hcl hdl
  subst hcl; subst hdl
  have hS : (s.heap.push (set0 led)).get? s.heap.objs.size = some (set0 led) := Heap.get?_push_size _ rfl
  have hol' : (s.heap.push (set0 led)).get? l = some { cls := .type "list", dict := odict, data := .seq items nl, slots := oslots } := Heap.get?_push_of_some _ hol
  have hsls := F.sub_list_set
  have hslf := F.sub_list_frozenset
  have hne : (Value.type "list" == Value.type "dict") = false := by decide
  have hl1 : (s.heap.push (set0 led)).IsList l items := ⟨_, hol', rfl, nl, rfl⟩
  have hlS : l < s.heap.objs.size := Heap.lt_size hol
  unfold Builtin.«set.__init__» noKeywords Builtin.Frozenset.updateFrom
  generalize hPI : pyIter = PI
  wp_walk
  subst hPI
  refine wpAny_pyIter_list hl1 ?_
  refine wpAny_bind (wpAny_runValue ?_)
  have hsz : (s.heap.push (set0 led)).objs.size = s.heap.objs.size + 1 := Heap.size_push ..
  have h1 : l ≠ (s.heap.push (set0 led)).objs.size := by rw [hsz]; exact Nat.ne_of_lt (Nat.lt_succ_of_lt hlS)
  have h2 : s.heap.objs.size ≠ (s.heap.push (set0 led)).objs.size := by rw [hsz]; exact Nat.ne_of_lt (Nat.lt_succ_self _)
  refine upd_loop (by simpa using hh) h1 h2 (Nat.ne_of_gt hlS) hs hb xs [] _ rfl ⟨⟨_, Heap.get?_push_size _ rfl, rfl, rfl⟩, hl1.push _⟩ ?_ fun h' tk hS' hk => ?_
  · refine ⟨set0 led, #[], 0, _, Heap.get?_push_of_some _ hS, ⟨rfl, rfl, rfl⟩, rfl, fun e he => by simp at he, fun k => by simp [dist], by unfold scanBound; decide, by rfl, rfl⟩
  · refine wpAny_pure ?_
    show wpAny _ _ (ret Value.none) _ _ _
    refine wpAny_pure (h h' tk hS' fun b o e => ?_)
    have hlt := Heap.lt_size e
    exact hk b o (Nat.ne_of_lt hlt) (by rw [hsz]; exact Nat.ne_of_lt (Nat.lt_succ_of_lt hlt)) (Heap.get?_push_of_some _ (Heap.get?_push_of_some _ e))

set_option maxHeartbeats 3200000 in
theorem set_strs (hh : A.handled = none) {l : Addr} {items : Array Value} {xs : List Str} (hl : s.heap.IsList l items) (hs : StrsAre items.toList xs) (hb : xs.length + 1 < scanBound) {Q : Value → Shared → Prop}
    (h : ∀ h' tk, h'.SetOf (PySem.strKind prog w) s.heap.objs.size (fun k => decide (k ∈ dist xs)) (dist xs).length → (∀ b o, s.heap.get? b = some o → h'.get? b = some o) →
      Q (.ref s.heap.objs.size) { s with heap := h', toks := tk }) :
    wpAny (model prog w) A (call (.type "set") [.ref l]) Q E s := by
  obtain ⟨c, tl, hmro⟩ := F.called_set.mro
  have hmade := F.called_set.made
  have hsub := F.called_set.sub
  refine wpAny_call (codeAny_of_tree ?_)
  show wpAny _ _ (callAny (.type "set") _) _ _ _
  refine wpAny_pure ⟨Code.quiet_builtin _ (by decide +kernel), codeAny_builtin F.entry_type_call ?_⟩
  rw [Around.under_plain (weight_type_call_type "set" [.ref l] []) rfl]
  have h1 := F.called_set.notType
  have h2 := F.called_set.canCreate
  have hct := F.typeCall_set_1 (.ref l)
  repeat (any_goals (first | assumption | wp_step))
  refine codeAny_mono (code_set_new_1 (.ref l) (E := E) (Q₁ := fun obj s₁ => ∃ led, obj = .ref s.heap.objs.size ∧ s₁ = { s with heap := s.heap.push (set0 led) }) fun led => ⟨led, rfl, rfl⟩) fun r s₁ hr => ?_
  match r, hr with
  | .error e, hr => exact hr
  | .ok .next, hr => exact hr.elim
  | .ok .brk, hr => exact hr.elim
  | .ok .cont, hr => exact hr.elim
  | .ok (.ret obj), ⟨led, e1, e2⟩ =>
    subst e1; subst e2
    have hS : (s.heap.push (set0 led)).get? s.heap.objs.size = some (set0 led) := Heap.get?_push_size _ rfl
    have hT : Shared.TypeIs { s with heap := s.heap.push (set0 led) } (.ref s.heap.objs.size) "set" := ⟨_, hS, rfl⟩
    have hli := F.called_set.init.lookup
    have hbi := F.called_set.init.bind (.ref s.heap.objs.size)
    repeat (any_goals (first | assumption | wp_step))
    refine codeAny_mono (codeAny_call_builtin (R := wants (fun r s₂ => r = .none ∧ Q (.ref s.heap.objs.size) s₂) E) F.called_set.init.plain F.entry_set_init (check_set_init_1 hT ?_)) fun r₂ s₂ hr₂ => ?_
    · exact init_strs (by simpa using hh) hl hs hb led fun h' tk hS' hk => ⟨rfl, h h' tk hS' hk⟩
    · match r₂, hr₂ with
      | .error e, hr₂ => exact hr₂
      | .ok .next, hr₂ => exact hr₂.elim
      | .ok .brk, hr₂ => exact hr₂.elim
      | .ok .cont, hr₂ => exact hr₂.elim
      | .ok (.ret v), ⟨e3, hq⟩ =>
        subst e3
        repeat (any_goals (first | assumption | wp_step))

/-- a set object of n items -/
def SSet (o : Obj) (n : Nat) : Prop := o.ExactSet ∧ ∃ es ep t, o.data = .set es ep t ∧ es.size = n ∧ t.fits es.size = true
variable {h₀ : Heap} {L : Addr} {m : Str → Option Value} {news : List (Addr × Obj)}
theorem set_news (F : Fr h₀ L s.heap m) (N : News h₀ L s.heap news) (hh : A.handled = none) {l : Addr} {items : Array Value} {c : Nat} {xs : List Str} (hl : (l, (listOf items c)) ∈ news) (hs : StrsAre items.toList xs) (hb : xs.length + 1 < scanBound) {Q : Value → Shared → Prop}
    (h : ∀ S o h' tk, Fr h₀ L h' m → News h₀ L h' ((S, o) :: news) → (∀ p ∈ news, p.1 < S) → SSet o (dist xs).length → Q (.ref S) { s with heap := h', toks := tk }) :
    wpAny (model prog w) A (call (.type "set") [.ref l]) Q E s := by
  have hlL := F.ns.lt
  refine set_strs hh ⟨_, (N _ hl).1, rfl, c, rfl⟩ hs hb fun h' tk hS hk => ?_
  obtain ⟨o, es, ep, t, ho, hex, hd, _, _, _, hf, hn⟩ := hS
  refine h _ o h' tk ⟨F.ns.at' fun o e => hk _ o e, fun b o e => hk b o (F.keep b o e), F.above⟩ (fun p hp => ?_) (fun p hp => Heap.lt_size (N p hp).1) ⟨hex, es, ep, t, hd, hn, hf⟩
  rcases List.mem_cons.mp hp with rfl | hp
  · refine ⟨ho, Nat.ne_of_gt hlL, ?_⟩
    exact Heap.get?_none_of_le (Nat.le_trans F.above (Nat.le_of_lt hlL))
  · exact ⟨hk _ _ (N p hp).1, (N p hp).2.1, (N p hp).2.2⟩
theorem len_sset (N : News h₀ L s.heap news) {S : Addr} {o : Obj} {n : Nat} (hm : (S, o) ∈ news) (hS : SSet o n) (hn : n < 2 ^ 62) {Q : Value → Shared → Prop}
    (h : Q (.int n (s.toks + 1)) { s with toks := s.toks + 1 + 1 }) : wpAny (model prog w) A (call (.builtin "len") [.ref S]) Q E s := by
  obtain ⟨hex, es, ep, t, hd, rfl, hf⟩ := hS
  have e63 : ((2 : Int) ^ 63) = 9223372036854775808 := by decide
  have e62 : ((2 : Nat) ^ 62) = 4611686018427387904 := by decide
  refine call_len_set (N _ hm).1 hex hd hf ?_ h
  rw [e63]; rw [e62] at hn; omega
end
/-- a mark at which no line of the walk goes on -/
def Stop (P : Prop) : Prop := P
section
variable {prog : Program} {w : World} {A : Around} {E : Value → Shared → Prop} {s : Shared} {h₀ : Heap} {L : Addr}
theorem stop_at {α : Type} {M : Model} {t : Sem α} {Q : α → Shared → Prop} (h : wpAny M A t (fun v s => Stop (Q v s)) E s) : wpAny M A t Q E s := h
/-- the end of a part that keeps the ledger led -/
def Kept (h₀ : Heap) (L : Addr) (led : List (Addr × Obj)) (s s' : Shared) : Prop := ∃ h' tk m', s' = { s with heap := h', toks := tk } ∧ Fr h₀ L h' m' ∧ News h₀ L h' led
def LoopEnd (h₀ : Heap) (L : Addr) (led : List (Addr × Obj)) (s : Shared) (Q : Value → Shared → Prop) : Flow → Shared → Prop
  | .next, s' => Kept h₀ L led s s'
  | .ret v, s' => Q v s'
  | _, _ => False

theorem for_cell {env : Env} {x : Str} {px : Pos} {c : Addr} {body : List Stmt} {Q : Flow → Shared → Prop} (hk : env.scope.kind = .function) (hx : env.kindOf x = some .cell) (hc : env.cells.lookup x = some c)
    {r : Addr} {a b : Int} {t u v : Tok} {n : Nat} {m : Str → Option Value} {news : List (Addr × Obj)} {oc : Obj} {v₀ : Option Value} (hh : A.handled = none)
    (hr : IsRange s.heap r a b 1 t u v) (hsm : Builtin.Range.small a b 1 = true) (hn : Builtin.Range.rangeSize a b 1 = ((n : Nat) : Int))
    (F : Fr h₀ env.locals s.heap m) (N : News h₀ env.locals s.heap ((c, oc) :: news)) (hd : oc.data = .cell v₀) (hnc : ∀ p ∈ news, p.1 ≠ c) (hE : PassesOwn (model prog w) A env E)
    (turn : ∀ (i : Nat) (t₁ : Tok) (oc' : Obj) (I : Addr) (oI : Obj) m₁ h tk, i < n → oc'.data = .cell (some (.int (a + (i : Int)) t₁)) → Fr h₀ env.locals h m₁ → News h₀ env.locals h ((I, oI) :: (c, oc') :: news) → (∀ p ∈ (c, oc') :: news, p.1 < I) →
      wpAny (model prog w) A (execs body env) (LoopEnd h₀ env.locals ((I, oI) :: (c, oc') :: news) { s with heap := h, toks := tk } (fun v s' => Q (.ret v) s')) E { s with heap := h, toks := tk })
    (done : ∀ (oc' : Obj) m₁ h tk, Fr h₀ env.locals h m₁ → News h₀ env.locals h ((c, oc') :: news) → Q .next { s with heap := h, toks := tk }) :
    wpAny (model prog w) A (pyIter (.ref r)) (fun it s₂ => codeAny (model prog w) A (.forLoop (.Name x px) it body [] env) (fun r s' => match r with | .ok f => Q f s' | .error e => cameBackBy (model prog w) A env E e s') s₂) E s := by
  refine wpAny_pyIter_range hr hsm ?_
  generalize hI : s.heap.objs.size = I
  have W := LCg.range_walks (prog := prog) (w := w) (A := A) (I := I) hh a n
  have hLI : env.locals ≠ I := by rw [← hI]; exact Nat.ne_of_lt F.ns.lt
  have hnI : h₀.get? I = none := by rw [← hI]; exact next_is_new F
  have hlt : ∀ p ∈ (c, oc) :: news, p.1 < I := fun p hp => by rw [← hI]; exact Heap.lt_size (N p hp).1
  refine codeAny_forLoop (fun k s' => ∃ h' tk m' oc' v' i, s' = { s with heap := h', toks := tk } ∧ IsRangeIter h' I (a + (i : Nat) * 1) ((n : Int) - (i : Nat)) 1 ∧ Fr h₀ env.locals h' m' ∧
    News h₀ env.locals h' ((c, oc') :: news) ∧ oc'.data = .cell v' ∧ i ≤ n ∧ k = n + 1 - i) ?_ (n + 1) ⟨_, _, m, oc, v₀, 0, rfl, ?_, F.push _, fun p hp => ⟨Heap.get?_push_of_some _ (N p hp).1, (N p hp).2⟩, hd, Nat.zero_le _, rfl⟩
  · rintro k s' ⟨h', tk, m', oc', v', i, rfl, hit, F', N', hd', hi, rfl⟩
    have hlt' : ∀ p ∈ (c, oc') :: news, p.1 < I := fun p hp => by
      rcases List.mem_cons.mp hp with rfl | hp
      · exact hlt (c, oc) List.mem_cons_self
      · exact hlt p (List.mem_cons_of_mem _ hp)
    have next : ∀ h₁ : Heap, (∀ b o, b ∉ [I] → h'.get? b = some o → h₁.get? b = some o) → Fr h₀ env.locals h₁ m' ∧ News h₀ env.locals h₁ ((c, oc') :: news) := fun h₁ hk₁ =>
      ⟨⟨F'.ns.at' fun o e => hk₁ _ o (by simpa using hLI) e, fun b o e => hk₁ b o (by
          intro hb; rw [List.mem_singleton.mp hb, hnI] at e; cases e) (F'.keep b o e), F'.above⟩,
        fun p hp => ⟨hk₁ _ _ (by simpa using Nat.ne_of_lt (hlt' p hp)) (N' p hp).1, (N' p hp).2⟩⟩
    by_cases hin : i < n
    · refine W.item i _ _ _ hin hit fun v h₁ tk₁ hP hit₁ hk₁ => ?_
      obtain ⟨t₁, rfl⟩ := hP
      obtain ⟨F₁, N₁⟩ := next h₁ hk₁
      have hcm := N₁ (c, oc') List.mem_cons_self
      refine wpAny_assign_Name (wpAny_storeName_cell hk hx hc ⟨oc', hcm.1, hd'⟩ fun h₂ hc₂ hs₂ => ?_)
      obtain ⟨o₂, ho₂, hd₂⟩ := hc₂
      have F₂ : Fr h₀ env.locals h₂ m' := ⟨F₁.ns.sameBut hs₂ (Ne.symm hcm.2.1), fun b o e => (hs₂.2 b (by
          intro q; rw [q, hcm.2.2] at e; cases e)).trans (F₁.keep b o e), F₁.above⟩
      have hit₂ : IsRangeIter h₂ I (a + ((i + 1 : Nat) : Nat) * 1) ((n : Int) - ((i + 1 : Nat) : Nat)) 1 := W.frame (i + 1) h₁ h₂ hit₁ fun b hb o e => by
        rw [List.mem_singleton.mp hb] at e ⊢
        exact (hs₂.2 I (Nat.ne_of_gt (hlt' (c, oc') List.mem_cons_self))).trans e
      obtain ⟨oI, hoI⟩ : ∃ oI, h₂.get? I = some oI := ⟨_, hit₂⟩
      have N₂ : News h₀ env.locals h₂ ((I, oI) :: (c, o₂) :: news) := fun p hp => by
        rcases List.mem_cons.mp hp with rfl | hp
        · exact ⟨hoI, Ne.symm hLI, hnI⟩
        · rcases List.mem_cons.mp hp with rfl | hp
          · exact ⟨ho₂, hcm.2.1, hcm.2.2⟩
          · have hq := N₁ p (List.mem_cons_of_mem _ hp)
            exact ⟨(hs₂.2 p.1 (hnc p hp)).trans hq.1, hq.2⟩
      refine wpAny_passesOwn hE (wpAny_mono (turn i t₁ o₂ I oI m' h₂ tk₁ hin hd₂ F₂ N₂ fun p hp => ?_) (fun f s₃ h₃ => ?_) fun _ _ e => e)
      · rcases List.mem_cons.mp hp with rfl | hp
        · exact hlt' (c, oc') List.mem_cons_self
        · exact hlt' p (List.mem_cons_of_mem _ hp)
      · cases f with
        | ret v => exact h₃
        | brk => exact h₃.elim
        | cont => exact h₃.elim
        | next =>
          obtain ⟨h₃', tk₃, m₃, rfl, F₃, N₃⟩ := h₃
          refine ⟨n + 1 - (i + 1), by omega, h₃', tk₃, m₃, o₂, _, i + 1, rfl, ?_, F₃, fun p hp => N₃ p (List.mem_cons_of_mem _ hp), hd₂, hin, rfl⟩
          have e₃ := (N₃ (I, oI) List.mem_cons_self).1
          have e₂ : h₂.get? I = some _ := hit₂
          show h₃'.get? I = some _
          rw [e₃, ← hoI, e₂]
    · have e : i = n := by omega
      subst e
      refine W.done _ _ _ hit fun h₁ tk₁ hk₁ => wpAny_execs_nil ?_
      obtain ⟨F₁, N₁⟩ := next h₁ hk₁
      exact done oc' m' h₁ tk₁ F₁ N₁
  · subst hI
    show IsRangeIter _ _ _ _ _
    rw [hn]
    simpa using Heap.get?_push_size _ rfl

def TurnEnd (h₀ : Heap) (L : Addr) (m : Str → Option Value) (led : List (Addr × Obj)) (s : Shared) (It : Value → Prop) (y : Value) (s' : Shared) : Prop :=
  ∃ h' tk, s' = { s with heap := h', toks := tk } ∧ Fr h₀ L h' m ∧ News h₀ L h' led ∧ It y

theorem comp_rest {m : Str → Option Value} {env : Env} {elt : PySem.Expr} {x : Str} {scope : Scope} {cl : List (Str × Addr)} {S : List (Addr × Obj) → Prop} {P : Nat → Value → Prop} {Fin : List Value → List (Addr × Obj) → Prop} {n : Nat} {news : List (Addr × Obj)}
    (It : Nat → Value → Prop) (hS : S news)
    (turn : ∀ i v I oI C oC D m₂ ys h tk (E' : Value → Shared → Prop), i < n → P i v → LCg.NsObj oC m₂ → m₂ x = some v → Fr h₀ L h m → News h₀ L h ((I, oI) :: (C, oC) :: (D, LCg.lst ys) :: news) →
      wpAny (model prog w) A (eval elt (compEnvC scope cl C env)) (TurnEnd h₀ L m ((I, oI) :: (C, oC) :: (D, LCg.lst ys) :: news) { s with heap := h, toks := tk } (It i)) E' { s with heap := h, toks := tk })
    (fin : ∀ ys, ys.length = n → (∀ i y, ys[i]? = some y → It i y) → Fin ys news) : LCg.CompRest prog w A h₀ L m env elt x scope cl s S P Fin n 0 [] news := by
  have key : ∀ (j : Nat) (ys : List Value), ys.length + j = n → (∀ i y, ys[i]? = some y → It i y) → LCg.CompRest prog w A h₀ L m env elt x scope cl s S P Fin j ys.length ys news := by
    intro j
    induction j with
    | zero => exact fun ys hl hy => LCg.CompRest.zero (fin ys hl hy)
    | succ j ih =>
      intro ys hl hy
      refine LCg.CompRest.succ fun v I oI C oC D m₂ h tk E' hP hC hx F N off ne => ?_
      refine wpAny_mono (turn ys.length v I oI C oC D m₂ ys h tk E' (by omega) hP hC hx F N) (fun y s₂ hq => ?_) fun _ _ e => e
      obtain ⟨h', tk', e, F', N', hI⟩ := hq
      refine ⟨h', tk', news, e, F', N', off, hS, ?_⟩
      have z := ih (ys ++ [y]) (by rw [List.length_append, List.length_singleton]; omega) fun i y' hy' => by
        rcases Nat.lt_trichotomy i ys.length with q | q | q
        · exact hy i y' (by rwa [List.getElem?_append_left q] at hy')
        · subst q; simp at hy'; subst hy'; exact hI
        · rw [List.getElem?_eq_none (by rw [List.length_append, List.length_singleton]; omega)] at hy'; cases hy'
      rw [List.length_append, List.length_singleton] at z
      exact z
  exact key n [] (by simp) (by simp)
end
theorem strs_of {f : Nat → Str} : ∀ {ys : List Value} {k : Nat}, (∀ (i : Nat) (y : Value), ys[i]? = some y → ∃ t, y = Value.str (f (k + i)) t) → StrsAre ys ((List.range' k ys.length).map f)
  | [], _, _ => .nil
  | y :: ys, k, h => by
    obtain ⟨t, rfl⟩ := h 0 y rfl
    rw [List.length_cons, List.range'_succ, List.map_cons]
    refine .cons _ t (strs_of fun i y hy => ?_)
    obtain ⟨t, e⟩ := h (i + 1) y (by simpa using hy)
    exact ⟨t, by rw [e]; congr 2; omega⟩
theorem ints_of {f : Nat → Int} : ∀ {ys : List Value} {k : Nat}, (∀ (i : Nat) (y : Value), ys[i]? = some y → ∃ t, y = Value.int (f (k + i)) t) → IntsAre ys ((List.range' k ys.length).map f)
  | [], _, _ => .nil
  | y :: ys, k, h => by
    obtain ⟨t, rfl⟩ := h 0 y rfl
    rw [List.length_cons, List.range'_succ, List.map_cons]
    refine .cons _ t (ints_of fun i y hy => ?_)
    obtain ⟨t, e⟩ := h (i + 1) y (by simpa using hy)
    exact ⟨t, by rw [e]; congr 2; omega⟩
local macro_rules | `(tactic| walk_at "exec Assign cons ListComp") => `(tactic| (k_here; k_dflt (refine LCg.Assign_ListComp_U (F₀ := by k_asm) (by rfl) (by with_unfolding_all rfl) (by with_unfolding_all rfl) (by decide) (by rfl) (by decide) (by rfl) (by rfl) (by rfl) (stop_at ?_))))
local macro_rules | `(tactic| walk_at "call ref") => `(tactic| (k_here; k_dflt ((refine' con_use (text_substr_con _ _ _ _ _ _ _ _ ?p1 ?p2 ?p3 ?p4) ?k1 ?k2 ?k3 ?k4 ?k5 ?kK ?kp ?kd ?ku ?_); walk_at "m1"; (case kp => walk_at "m5"); (case p1 | p2 | p3 | p4 => omega); walk_at "m2")))
/-- the part of x of size i + 1 from place j on -/
def sub (x : Str) (i j : Nat) : Str := Txt.slice x (some (1 + (j : Int) - 1)) (some (1 + (j : Int) - 1 + (1 + (i : Int))))
theorem rangeSize_sub (k i : Nat) (h : i < k) : Builtin.Range.rangeSize 1 ((k : Int) - (1 + (i : Int)) + 2) 1 = ((k - i : Nat) : Int) := by
  unfold Builtin.Range.rangeSize
  rw [if_pos (by decide), if_pos (by omega)]; omega
def cntA (x : Str) (i j : Nat) : Int := Txt.count (sub x i j) (Str.ofString "a")
def parts (x : Str) (i : Nat) : List Str := (List.range' 0 (x.length - i)).map (sub x i)
def counts (x : Str) (i : Nat) : List Int := (List.range' 0 (x.length - i)).map (cntA x i)
/-- any two of the numbers differ by one at most -/
def Near (ns : List Int) : Prop := ∀ a ∈ ns, ∀ b ∈ ns, a - b ≤ 1
theorem my_max {prog : Program} {w : World} {A : Around} {E : Value → Shared → Prop} {s : Shared} {h₀ : Heap} {L l : Addr} {m : Str → Option Value} {news : List (Addr × Obj)} {vs : List Value} {c : Nat} {ns : List Int} {Q : Value → Shared → Prop}
    (F : Fr h₀ L s.heap m) (N : News h₀ L s.heap news) (hh : A.handled = none) (hm : (l, (listOf vs.toArray c)) ∈ news) (hi : IntsAre vs ns) (hne : 0 < ns.length) (hN : Near ns)
    (h : ∀ h' M (t : Tok) tk, Fr h₀ L h' m → News h₀ L h' news → (∀ b ∈ ns, M - b ≤ 1) → Q (.int M t) { s with heap := h', toks := tk }) : wpAny (model prog w) A (call (.builtin "max") [.ref l]) Q E s :=
  kso_max F N ⟨_, (N _ hm).1, rfl, c, rfl⟩ hi hne hh fun h' M t tk F' N' hM _ => h h' M t tk F' N' fun b hb => hN M hM b hb
theorem my_min {prog : Program} {w : World} {A : Around} {E : Value → Shared → Prop} {s : Shared} {h₀ : Heap} {L l : Addr} {m : Str → Option Value} {news : List (Addr × Obj)} {vs : List Value} {c : Nat} {ns : List Int} {Q : Value → Shared → Prop} {M₀ : Int}
    (F : Fr h₀ L s.heap m) (N : News h₀ L s.heap news) (hh : A.handled = none) (hm : (l, (listOf vs.toArray c)) ∈ news) (hi : IntsAre vs ns) (hne : 0 < ns.length) (hN : ∀ b ∈ ns, M₀ - b ≤ 1)
    (h : ∀ h' M (t : Tok) tk, Fr h₀ L h' m → News h₀ L h' news → M₀ - M ≤ 1 → Q (.int M t) { s with heap := h', toks := tk }) : wpAny (model prog w) A (call (.builtin "min") [.ref l]) Q E s :=
  kso_min F N ⟨_, (N _ hm).1, rfl, c, rfl⟩ hi hne hh fun h' M t tk F' N' hM _ => h h' M t tk F' N' (hN M hM)
local macro_rules | `(tactic| walk_at "call type:set") => `(tactic| (k_here; (with_reducible show wpAny _ _ (call (Value.type "set") [Value.ref _]) _ _ _); k_dflt (refine' set_news ?k1 ?k2 ?k3 ?k4 ?k5 ?k6 ?_; (case k1 | k2 => k_asm); (case k3 => rfl); (case k4 => k_mem); (case k5 | k6 => assumption); k_whole; intro S' o' h' tk' F' N' l1 e'; (try k_lt l1))))
local macro_rules | `(tactic| walk_at "call builtin:len") => `(tactic| (k_here; (with_reducible show wpAny _ _ (call (Value.builtin "len") [Value.ref _]) _ _ _); k_dflt (refine' len_sset ?k1 ?k2 ?k3 ?k4 ?_; (case k1 => k_asm); (case k2 => k_mem); (case k3 | k4 => assumption); k_whole)))
local macro_rules | `(tactic| walk_at "call builtin:max") => `(tactic| (k_here; (with_reducible show wpAny _ _ (call (Value.builtin "max") [Value.ref _]) _ _ _); k_dflt (refine' my_max ?k1 ?k2 ?k3 ?k4 ?k5 ?k6 ?k7 ?_; (case k1 | k2 => k_asm); (case k3 => rfl); (case k4 => k_mem); (case k5 | k6 | k7 => assumption); k_whole; intro h' M' t' tk' F' N' a')))
local macro_rules | `(tactic| walk_at "call builtin:min") => `(tactic| (k_here; (with_reducible show wpAny _ _ (call (Value.builtin "min") [Value.ref _]) _ _ _); k_dflt (refine' my_min ?k1 ?k2 ?k3 ?k4 ?k5 ?k6 ?k7 ?_; (case k1 | k2 => k_asm); (case k3 => rfl); (case k4 => k_mem); (case k5 | k6 | k7 => assumption); k_whole; intro h' M' t' tk' F' N' a')))
theorem ne_of_all {L c : Addr} : ∀ {l : List (Addr × Obj)}, AllLt L l → L ≤ c → ∀ p ∈ l, p.1 ≠ c
  | [], _, _, _, hp => nomatch hp
  | q :: r, h, hc, p, hp => by
    rcases List.mem_cons.mp hp with rfl | hp
    · exact Nat.ne_of_lt (Nat.lt_of_lt_of_le h.1 hc)
    · exact ne_of_all h.2 hc p hp
theorem rangeSize_to (k : Nat) : Builtin.Range.rangeSize 1 ((k : Int) + 1) 1 = (k : Int) := by
  unfold Builtin.Range.rangeSize
  rw [if_pos (by decide)]
  by_cases h : (1 : Int) < (k : Int) + 1
  · rw [if_pos h]; omega
  · rw [if_neg h]; omega
section
variable {mean : ExcName → Option Value} {mg mb : Str → Option Value} {w : World}
set_option maxHeartbeats 8000000 in
theorem even_con (aW : Addr) (x : Str) (tx : Tok) (hl : x.length ≤ 100) (hgood : ∀ i, i < x.length → (dist (parts x i)).length ≤ i + 2 ∧ Near (counts x i)) :
    Con mean mg mb w 310 5 (fun news => WIn news aW) [.ref aW, .str x tx] (fun t => .bool true) := by
  unfold Con
  k_fill
  intro dp un gd cn cs a ccd cl outer A₀ base h₀ L m news s Q E B F X N' T hkk hpre hdp hun hret
  obtain ⟨dW, sl, es, n, tw, tm, hW1, hW2, hgw, hgm⟩ := hpre
  have N := con_news N' (cons3_in hW1 hW2 hW2)
  clear N'
  refine wpAny_call ?_
  k_dflt (refine' code_defC ?k1 ?k2 ?k3 ?k4 ?k5 ?kA ?kF ?kK ?k6 ?k7 ?k8 ?k9 ?kB ?kD ?_ ?c2 ?c3 ?c4; (case kA => exact rfl); (case kF => exact rfl); (case kK => first | assumption | exact rfl); (case k1 => k_asm); (case k2 => k_asm); (case k3 => k_asm); (case k4 => k_asm); (case k5 => k_asm); (case k6 => k_is); (case k7 => k_is); (case k8 => ktr_room); (case k9 => exact BindsTo.of_eq rfl); (case kB => exact rfl); (case kD => decide +kernel); (case c2 => exact rfl); (case c3 => exact rfl); (case c4 => exact rfl); k_whole; intro g' L' h' tk' cells' FG' F'' N'' Y' B' X' T' l1')
  obtain ⟨o1, o2, o3, hE, d1', d2', d3'⟩ := PyProof.Rows.CellsAre.three Y'
  subst hE
  clear Y'
  have l1 := allLt_of l1'
  have d1 : o1.data = .cell none := d1'
  have d2 : o2.data = .cell (some (.str x tx)) := d2'
  have d3 : o3.data = .cell (some (.ref aW)) := d3'
  obtain ⟨m0, F'⟩ : ∃ m0, Fr g' L' h' m0 := ⟨_, F''⟩
  have N' : News g' L' h' ((L' + 1 + 1 + 1, o1) :: (L' + 1 + 1, o2) :: (L' + 1, o3) :: (aW, { cls := Value.ref 217, dict := some dW, slots := sl }) :: (dW, dictOf es n) :: (dW, dictOf es n) :: news) := N''
  clear N'' F'' d1' d2' d3' l1'
  (try dsimp only); (try k_lift B'); (try k_fold)
  k_steps
  refine wpAny_For (stop_at ?_) (by intro _; rfl)
  k_steps
  rename IsRange _ _ _ _ _ _ _ _ => hR
  refine for_cell (news := (L' + 1 + 1, o2) :: (L' + 1, o3) :: (aW, { cls := Value.ref 217, dict := some dW, slots := sl }) :: (dW, dictOf es n) :: (dW, dictOf es n) :: news) (c := L' + 1 + 1 + 1) (n := x.length) rfl rfl rfl rfl hR (small_one (by omega) (by omega) (by omega) (by omega)) ?hn (by k_asm) (by k_asm) d1 ?hnc ?hE ?turn ?done
  case hn => exact rangeSize_to (x.length : Nat)
  case hnc =>
    intro p hp
    simp only [List.mem_cons] at hp
    rcases hp with rfl | rfl | rfl | rfl | rfl | hp
    · exact Nat.ne_of_lt (Nat.lt_succ_self (L' + 1 + 1))
    · exact Nat.ne_of_lt (Nat.lt_succ_of_lt (Nat.lt_succ_self (L' + 1)))
    · exact Nat.ne_of_lt (Nat.lt_of_lt_of_le l1.1 (Nat.le_add_right L' 3))
    · exact Nat.ne_of_lt (Nat.lt_of_lt_of_le l1.2.1 (Nat.le_add_right L' 3))
    · exact Nat.ne_of_lt (Nat.lt_of_lt_of_le l1.2.1 (Nat.le_add_right L' 3))
    · exact ne_of_all l1.2.2.2 (Nat.le_add_right L' 3) p hp
  case hE => passes_own
  case turn =>
    intro i t₁ oc I oI m₁ h₁ tk₁ hin hdc F₁ N₁ hI
    clear d1 hR
    k_fold
    k_steps
    unfold Stop
    rename IsRange _ _ _ _ _ _ _ _ => hR2
    refine LCg.CompSrc.range (n := x.length - i) rfl (by k_asm) (by k_asm) hR2 (small_one (by omega) (by omega) (by omega) (by omega)) (rangeSize_sub _ _ hin) (by rw [sizeLine_eq]; omega) fun g => ?_
    refine comp_rest (fun j y => ∃ t, y = .str (sub x i j) t) trivial ?turn2 ?fin2
    case turn2 =>
      intro j v I2 oI2 C oC D m₂ ys h₂ tk₂ E' hj hP hC hx F₂ N₂
      obtain ⟨t₂, rfl⟩ := hP
      k_fold
      k_steps
      exact ⟨_, _, rfl, by k_asm, con_news (by k_asm) (fun p hp => List.mem_cons_of_mem _ hp), _, rfl⟩
    case fin2 =>
      intro ys hyl hys
      clear hR2
      unfold LCg.FinA
      intro D h₂ tk₂ F₂ N₂ _
      k_steps
      unfold Stop
      refine LCg.CompSrc.ledger (ax := D) (its := ys.toArray) (k := ys.length) rfl (by k_asm) (by k_asm) (by k_mem) (by rw [sizeLine_eq]; simp; omega) fun g₂ => ?_
      refine comp_rest (fun j y => ∃ t, y = .int (cntA x i j) t) (.inr ⟨_, List.mem_cons_self, rfl, _, rfl⟩) ?turn3 ?fin3
      case turn3 =>
        intro j v I2 oI2 C oC D' m₂ ys' h₃ tk₃ E' hj hP hC hx F₃ N₃
        obtain ⟨t₂, rfl⟩ := hys j v (by simpa using hP)
        k_fold
        k_steps
        exact ⟨_, _, rfl, by k_asm, by k_asm, _, rfl⟩
      case fin3 =>
        intro zs hzl hzs
        have hS : StrsAre ys (parts x i) := by
          have z := strs_of (f := sub x i) (ys := ys) (k := 0) (fun j y hy => by rw [Nat.zero_add]; exact hys j y hy)
          rw [hyl] at z; exact z
        have hZ : IntsAre zs (counts x i) := by
          have z := ints_of (f := cntA x i) (ys := zs) (k := 0) (fun j y hy => by rw [Nat.zero_add]; exact hzs j y hy)
          rw [hzl] at z
          have e : ys.toArray.size = x.length - i := by simp [hyl]
          rw [e] at z; exact z
        have hpl : (parts x i).length = x.length - i := by simp [parts]
        have hcl : (counts x i).length = x.length - i := by simp [counts]
        have hb1 : (parts x i).length + 1 < scanBound := by rw [hpl]; unfold scanBound; omega
        have hc0 : 0 < (counts x i).length := by omega
        obtain ⟨hg1, hg2⟩ := hgood i hin
        have hd62 : (dist (parts x i)).length < 2 ^ 62 := Nat.lt_of_le_of_lt hg1 (by omega)
        clear hys hzs
        unfold LCg.FinA
        intro D₂ h₃ tk₃ F₃ N₃ _
        k_steps
        exact ⟨_, _, _, rfl, by k_asm, con_news (by k_asm) fun p hp => List.mem_cons_of_mem _ (List.mem_cons_of_mem _ (List.mem_cons_of_mem _ hp))⟩
  case done =>
    intro oc m₁ h₁ tk₁ F₁ N₁
    dsimp only
    k_steps
    exact con_end hret 0 rfl (by k_asm) (con_news (by k_asm) fun p hp => by simp only [List.mem_cons]; simp [hp])
end
section
variable {prog : Program} {w : World} {A : Around} {E : Value → Shared → Prop} {s : Shared} {h₀ : Heap} {L : Addr}
def KeptJ (h₀ : Heap) (L : Addr) (led : List (Addr × Obj)) (J : (Str → Option Value) → Prop) (s s' : Shared) : Prop := ∃ h' tk m', s' = { s with heap := h', toks := tk } ∧ Fr h₀ L h' m' ∧ News h₀ L h' led ∧ J m'
def LoopEndJ (h₀ : Heap) (L : Addr) (led : List (Addr × Obj)) (J : (Str → Option Value) → Prop) (s : Shared) (Q : Value → Shared → Prop) : Flow → Shared → Prop
  | .next, s' => KeptJ h₀ L led J s s'
  | .ret v, s' => Q v s'
  | _, _ => False

theorem for_local {env : Env} {x : Str} {px : Pos} {body : List Stmt} {Q : Flow → Shared → Prop} (hx : env.kindOf x = some .local) (hp : (env.scope.kind == .class || (env.scope.kind == .module && env.locals != env.globals)) = false)
    {r : Addr} {a b : Int} {t u v : Tok} {n : Nat} {m : Str → Option Value} {news : List (Addr × Obj)} (J : Nat → (Str → Option Value) → Prop) (hh : A.handled = none)
    (hr : IsRange s.heap r a b 1 t u v) (hsm : Builtin.Range.small a b 1 = true) (hn : Builtin.Range.rangeSize a b 1 = ((n : Nat) : Int))
    (F : Fr h₀ env.locals s.heap m) (N : News h₀ env.locals s.heap news) (hJ : J 0 m) (hE : PassesOwn (model prog w) A env E)
    (turn : ∀ (i : Nat) (t₁ : Tok) (I : Addr) (oI : Obj) m₁ h tk, i < n → J i m₁ → Fr h₀ env.locals h (fun y => if y = x then some (.int (a + (i : Int)) t₁) else m₁ y) → News h₀ env.locals h ((I, oI) :: news) → (∀ p ∈ news, p.1 < I) →
      wpAny (model prog w) A (execs body env) (LoopEndJ h₀ env.locals ((I, oI) :: news) (J (i + 1)) { s with heap := h, toks := tk } (fun v s' => Q (.ret v) s')) E { s with heap := h, toks := tk })
    (done : ∀ m₁ h tk, Fr h₀ env.locals h m₁ → News h₀ env.locals h news → Q .next { s with heap := h, toks := tk }) :
    wpAny (model prog w) A (pyIter (.ref r)) (fun it s₂ => codeAny (model prog w) A (.forLoop (.Name x px) it body [] env) (fun r s' => match r with | .ok f => Q f s' | .error e => cameBackBy (model prog w) A env E e s') s₂) E s := by
  refine wpAny_pyIter_range hr hsm ?_
  generalize hI : s.heap.objs.size = I
  have W := LCg.range_walks (prog := prog) (w := w) (A := A) (I := I) hh a n
  have hLI : env.locals ≠ I := by rw [← hI]; exact Nat.ne_of_lt F.ns.lt
  have hnI : h₀.get? I = none := by rw [← hI]; exact next_is_new F
  have hlt : ∀ p ∈ news, p.1 < I := fun p hp => by rw [← hI]; exact Heap.lt_size (N p hp).1
  refine codeAny_forLoop (fun k s' => ∃ h' tk m' i, s' = { s with heap := h', toks := tk } ∧ IsRangeIter h' I (a + (i : Nat) * 1) ((n : Int) - (i : Nat)) 1 ∧ Fr h₀ env.locals h' m' ∧
    News h₀ env.locals h' news ∧ J i m' ∧ i ≤ n ∧ k = n + 1 - i) ?_ (n + 1) ⟨_, _, m, 0, rfl, ?_, F.push _, fun p hp => ⟨Heap.get?_push_of_some _ (N p hp).1, (N p hp).2⟩, hJ, Nat.zero_le _, rfl⟩
  · rintro k s' ⟨h', tk, m', i, rfl, hit, F', N', hJ', hi, rfl⟩
    have next : ∀ h₁ : Heap, (∀ b o, b ∉ [I] → h'.get? b = some o → h₁.get? b = some o) → Fr h₀ env.locals h₁ m' ∧ News h₀ env.locals h₁ news := fun h₁ hk₁ =>
      ⟨⟨F'.ns.at' fun o e => hk₁ _ o (by simpa using hLI) e, fun b o e => hk₁ b o (by
          intro hb; rw [List.mem_singleton.mp hb, hnI] at e; cases e) (F'.keep b o e), F'.above⟩,
        fun p hp => ⟨hk₁ _ _ (by simpa using Nat.ne_of_lt (hlt p hp)) (N' p hp).1, (N' p hp).2⟩⟩
    by_cases hin : i < n
    · refine W.item i _ _ _ hin hit fun v h₁ tk₁ hP hit₁ hk₁ => ?_
      obtain ⟨t₁, rfl⟩ := hP
      obtain ⟨F₁, N₁⟩ := next h₁ hk₁
      refine wpAny_assign_Name (wpAny_storeName_local hx F₁.ns (fun h₂ hn₂ hs₂ => ?_) hp)
      have F₂ := F₁.set hn₂ hs₂
      have hit₂ : IsRangeIter h₂ I (a + ((i + 1 : Nat) : Nat) * 1) ((n : Int) - ((i + 1 : Nat) : Nat)) 1 := W.frame (i + 1) h₁ h₂ hit₁ fun b hb o e => by
        rw [List.mem_singleton.mp hb] at e ⊢
        exact (hs₂.2 I (Ne.symm hLI)).trans e
      obtain ⟨oI, hoI⟩ : ∃ oI, h₂.get? I = some oI := ⟨_, hit₂⟩
      have N₂ : News h₀ env.locals h₂ ((I, oI) :: news) := fun p hp => by
        rcases List.mem_cons.mp hp with rfl | hp
        · exact ⟨hoI, Ne.symm hLI, hnI⟩
        · have hq := N₁ p hp
          exact ⟨(hs₂.2 p.1 hq.2.1).trans hq.1, hq.2⟩
      refine wpAny_passesOwn hE (wpAny_mono (turn i t₁ I oI m' h₂ _ hin hJ' F₂ N₂ hlt) (fun f s₃ h₃ => ?_) fun _ _ e => e)
      cases f with
      | ret v => exact h₃
      | brk => exact h₃.elim
      | cont => exact h₃.elim
      | next =>
        obtain ⟨h₃', tk₃, m₃, rfl, F₃, N₃, hJ₃⟩ := h₃
        refine ⟨n + 1 - (i + 1), by omega, h₃', tk₃, m₃, i + 1, rfl, ?_, F₃, fun p hp => N₃ p (List.mem_cons_of_mem _ hp), hJ₃, hin, rfl⟩
        have e₃ := (N₃ (I, oI) List.mem_cons_self).1
        have e₂ : h₂.get? I = some _ := hit₂
        show h₃'.get? I = some _
        rw [e₃, ← hoI, e₂]
    · have e : i = n := by omega
      subst e
      refine W.done _ _ _ hit fun h₁ tk₁ hk₁ => wpAny_execs_nil ?_
      obtain ⟨F₁, N₁⟩ := next h₁ hk₁
      exact done m' h₁ tk₁ F₁ N₁
  · subst hI
    show IsRangeIter _ _ _ _ _
    rw [hn]
    simpa using Heap.get?_push_size _ rfl

theorem stop_tree {α : Type} {M : Model} {t : Sem α} {Q : α → Shared → Prop} (h : Stop (wpAny M A t Q E s)) : wpAny M A t Q E s := h
/-- an int that is stored is one of two: a letter from here on -/
theorem gen_int {M : Model} {x : Str} {env : Env} {T : Int} {t : Tok} {Q : Unit → Shared → Prop} (P : Int → Prop) (hT : P T) (h : ∀ k, P k → wpAny M A (storeName env x (.int k t)) Q E s) : wpAny M A (storeName env x (.int T t)) Q E s := h T hT
end
theorem two_in {p q : Addr × Obj} {l l' : List (Addr × Obj)} (hp : p ∈ l') (hq : q ∈ l') (h : ∀ x ∈ l, x ∈ l') : ∀ x ∈ p :: q :: l, x ∈ l' := by
  intro x hx; simp only [List.mem_cons] at hx; rcases hx with rfl | rfl | hx
  · exact hp
  · exact hq
  · exact h x hx
section
variable {mean : ExcName → Option Value} {mg mb : Str → Option Value} {w : World}
set_option maxHeartbeats 8000000 in
theorem world_con : ∀ (gd : Option (List Code)) (cn : Str) (cs : Scope) (a : Addr) (ccd : Value) (cl : List (Str × Addr)) (outer : List Env) (A₀ : Around) (base h₀ : Heap) (L : Addr) (m : Str → Option Value) (news : List (Addr × Obj)) (s : Shared) (Q E : Value → Shared → Prop),
    Below A₀ base outer h₀ → Fr h₀ L s.heap m → (hK w.params).In h₀ → News h₀ L s.heap news → Top hv (looseW hv [Str.ofString "SnobolError"]) mean mg mb h₀ → cs.kind = .function →
    (∀ (aW dW : Addr) (sl : Array (Option Value)) (es : List DictEntry) (n : Nat) (tw tm : Tok) (h' : Heap) (tk' : Nat), Fr h₀ L h' m → News h₀ L h' ((aW, (⟨.ref 217, some dW, .plain, sl⟩ : Obj)) :: (dW, dictOf es n) :: news) →
      getL (Str.ofString "width") es = some (some (.int 32 tw)) → getL (Str.ofString "most_length") es = some (some (.int 5000 tm)) → Q (.ref aW) { s with heap := h', toks := tk' }) →
    wpAny (model PySem.Challenge.rw_xm0950_01.row.prog w) (ktrTop 302 7 gd cn cs L a ccd cl outer) (call (.ref 217) []) Q E s := by
  k_fill
  intro gd cn cs a ccd cl outer A₀ base h₀ L m news s Q E B F X N T hkk hret
  have hMk : KstMark := kstMark
  obtain ⟨kd, nm, ig, ic, mr⟩ := cs
  dsimp only at hkk
  subst hkk
  k_steps
  refine' hret _ _ _ _ _ 452 455 _ _ ?f (con_news ?n (two_in ?m1 ?m2 ?m3)) ?g1 ?g2
  case f => k_asm
  case n => k_asm
  case m1 => k_mem
  case m2 => k_mem
  case g1 => k_get
  case g2 => k_get
  case m3 => intro p hp; repeat (first | exact hp | refine List.mem_cons_of_mem _ ?_)
end
section
variable {prog : Program} {w : World} {A : Around} {E : Value → Shared → Prop} {Q : Flow → Shared → Prop} {s : Shared} {env : Env} {h₀ : Heap} {L : Addr}
def WEnd (h₀ : Heap) (L : Addr) (m₀ : Str → Option Value) (news : List (Addr × Obj)) (x y : Str) (P : Int → Int → Prop) (μ : Int → Int → Nat) (g l : Int) (s : Shared) (f : Flow) (s₂ : Shared) : Prop :=
  f = .next ∧ ∃ h' tk' g' l' tg' tl' m', s₂ = { s with heap := h', toks := tk' } ∧ Fr h₀ L h' m' ∧ News h₀ L h' news ∧ m' x = some (.int g' tg') ∧ m' y = some (.int l' tl') ∧ (∀ z, z ≠ x → z ≠ y → m' z = m₀ z) ∧ P g' l' ∧ μ g' l' < μ g l
theorem while_two {x y : Str} (hxy : x ≠ y) {test : PySem.Expr} {body : List Stmt} {pos : Pos} {m₀ : Str → Option Value} {news : List (Addr × Obj)} (P : Int → Int → Prop) (μ : Int → Int → Nat) {g₀ l₀ : Int} {tg tl : Tok}
    (F : Fr h₀ L s.heap m₀) (N : News h₀ L s.heap news) (hx : m₀ x = some (.int g₀ tg)) (hy : m₀ y = some (.int l₀ tl)) (hP : P g₀ l₀)
    (turn : ∀ g l tg tl h tk, P g l → Fr h₀ L h (fun z => if z = x then some (.int g tg) else if z = y then some (.int l tl) else m₀ z) → News h₀ L h news →
      wpAny (model prog w) A (isTrue test env (eval test env)) (fun b s₂ => if b = true then wpAny (model prog w) A (execs body env) (WEnd h₀ L m₀ news x y P μ g l s) E s₂ else Q .next s₂) E { s with heap := h, toks := tk })
    (hE : PassesOwn (model prog w) A env E) : wpAny (model prog w) A (exec (.While test body [] pos) env) Q E s := by
  refine While_inv2 (fun n m nx => nx = news ∧ ∃ g l tg tl, m x = some (.int g tg) ∧ m y = some (.int l tl) ∧ (∀ z, z ≠ x → z ≠ y → m z = m₀ z) ∧ P g l ∧ n = μ g l) F N ⟨rfl, g₀, l₀, tg, tl, hx, hy, fun _ _ _ => rfl, hP, rfl⟩ ?_ hE
  rintro n m₁ nx h tk F₁ N₁ ⟨rfl, g, l, tg, tl, hx₁, hy₁, hr, hP₁, rfl⟩
  have em : m₁ = fun z => if z = x then some (.int g tg) else if z = y then some (.int l tl) else m₀ z := by
    funext z
    by_cases h1 : z = x
    · subst h1; simp [hx₁]
    · by_cases h2 : z = y
      · subst h2; simp [h1, hy₁]
      · simp [h1, h2, hr z h1 h2]
  rw [em] at F₁
  refine wpAny_mono (turn g l tg tl h tk hP₁ F₁ N₁) (fun b s₂ p => ?_) fun _ _ x => x
  cases b with
  | false => simpa using p
  | true =>
    simp only [if_true] at p ⊢
    refine wpAny_mono p (fun f s₃ q => ?_) fun _ _ x => x
    obtain ⟨rfl, h', tk', g', l', tg', tl', m', rfl, F', N', a1, a2, a3, a4, a5⟩ := q
    exact ⟨h', tk', m', nx, μ g' l', rfl, F', N', a5, rfl, g', l', tg', tl', a1, a2, a3, a4, rfl⟩
theorem wend_intro {x y : Str} (hxy : x ≠ y) {m₀ r : Str → Option Value} {news news' : List (Addr × Obj)} {P : Int → Int → Prop} {μ : Int → Int → Nat} {g l g' l' : Int} {tg' tl' : Tok} {h' : Heap} {tk' : Nat}
    (F : Fr h₀ L h' (fun z => if z = x then some (.int g' tg') else if z = y then some (.int l' tl') else r z)) (N : News h₀ L h' news') (hn : ∀ p ∈ news, p ∈ news') (hr : ∀ z, z ≠ x → z ≠ y → r z = m₀ z) (hP : P g' l') (hm : μ g' l' < μ g l) :
    WEnd h₀ L m₀ news x y P μ g l s .next { s with heap := h', toks := tk' } :=
  ⟨rfl, h', tk', g', l', tg', tl', _, rfl, F, fun p hp => N p (hn p hp), by simp, by simp [Ne.symm hxy], fun z h1 h2 => by simp [h1, h2, hr z h1 h2], hP, hm⟩
theorem pick3 {h : Heap} {l : List (Addr × Obj)} {p1 p2 p3 : Addr × Obj} (N : News h₀ L h l) (h1 : p1 ∈ l) (h2 : p2 ∈ l) (h3 : p3 ∈ l) : News h₀ L h [p1, p2, p3] := fun p hp => N p (by
  simp only [List.mem_cons, List.not_mem_nil, or_false] at hp
  rcases hp with rfl | rfl | rfl <;> assumption)
end
/-- what holds of the two sizes between the turns of the while -/
def Gcd1 (g l : Int) : Prop := 0 < g ∧ g ≤ 5000 ∧ 0 ≤ l ∧ l ≤ 5000 ∧ (0 < l ∨ g = 1) ∧ Int.gcd g l = 1
theorem gcd1_turn {g l : Int} (h : Gcd1 g l) (hl : 0 < l) : Gcd1 l (g - l * Int.fdiv g l) ∧ (g - l * Int.fdiv g l).toNat < l.toNat := by
  obtain ⟨h1, h2, h3, h4, h5, h6⟩ := h
  have e : g - l * Int.fdiv g l = Int.fmod g l := (Int.fmod_def g l).symm
  rw [e]
  have b1 := Int.fmod_nonneg_of_pos g hl
  have b2 := Int.fmod_lt_of_pos g hl
  have e2 : Int.fmod g l = g % l := Int.fmod_eq_emod_of_nonneg g (by omega)
  have hg : Int.gcd l (Int.fmod g l) = 1 := by
    rw [e2]
    obtain ⟨a, rfl⟩ := Int.eq_ofNat_of_zero_le (show 0 ≤ g by omega)
    obtain ⟨b, rfl⟩ := Int.eq_ofNat_of_zero_le h3
    have h7 : Nat.gcd a b = 1 := h6
    show Nat.gcd b (a % b) = 1
    rw [Nat.gcd_comm, ← Nat.gcd_rec, Nat.gcd_comm]
    exact h7
  refine ⟨⟨hl, h4, b1, by omega, ?_, hg⟩, by omega⟩
  rcases Int.lt_or_eq_of_le b1 with q | q
  · exact .inl q
  · right
    rw [← q, Int.gcd_zero_right] at hg
    omega
/-- the two words after n turns -/
def St : Nat → List (Str × Str)
  | 0 => [(Str.ofString "a", Str.ofString "b")]
  | n + 1 => (St n).flatMap fun p => [(Txt.mul p.1 1 ++ p.2, p.1), (Txt.mul p.1 2 ++ p.2, p.1)]
def Jd (aW Dc : Addr) (i : Nat) (m : Str → Option Value) : Prop :=
  ∃ one other t1 t2, (one, other) ∈ St i ∧ m (Str.ofString "one") = some (.str one t1) ∧ m (Str.ofString "other") = some (.str other t2) ∧ m (Str.ofString "world") = some (.ref aW) ∧ m (Str.ofString "cells") = some (.ref Dc)
theorem known4 {h₀ h : Heap} {L : Addr} {x0 x1 x2 x3 x4 : Str} {v0 : Option Value} {v1 v2 v3 v4 : Value} {m : Str → Option Value} (F : Fr h₀ L h (fun y => if y = x0 then v0 else m y))
    (e1 : m x1 = some v1) (e2 : m x2 = some v2) (e3 : m x3 = some v3) (e4 : m x4 = some v4) :
    Fr h₀ L h (fun y => if y = x0 then v0 else if y = x1 then some v1 else if y = x2 then some v2 else if y = x3 then some v3 else if y = x4 then some v4 else m y) := by
  have e : (fun y => if y = x0 then v0 else m y) = (fun y => if y = x0 then v0 else if y = x1 then some v1 else if y = x2 then some v2 else if y = x3 then some v3 else if y = x4 then some v4 else m y) := by
    funext y
    by_cases h0 : y = x0
    · simp [h0]
    · simp only [if_neg h0]
      by_cases h1 : y = x1
      · subst h1; simp [e1]
      · simp only [if_neg h1]
        by_cases h2 : y = x2
        · subst h2; simp [e2]
        · simp only [if_neg h2]
          by_cases h3 : y = x3
          · subst h3; simp [e3]
          · simp only [if_neg h3]
            by_cases h4 : y = x4
            · subst h4; simp [e4]
            · simp only [if_neg h4]
  exact e ▸ F
theorem many_two (X : Int) : 1 + X.fmod 2 = 1 ∨ 1 + X.fmod 2 = 2 := by
  have h1 := Int.fmod_nonneg_of_pos X (b := 2) (by decide)
  have h2 := Int.fmod_lt_of_pos X (b := 2) (by decide)
  omega
theorem range_mod (X : Int) : Builtin.Range.rangeSize 0 (1 + X.fmod 3) 1 = (((1 + X.fmod 3).toNat : Nat) : Int) := by
  have h1 := Int.fmod_nonneg_of_pos X (b := 3) (by decide)
  unfold Builtin.Range.rangeSize
  rw [if_pos (by decide), if_pos (by omega)]; omega
theorem range_small (X : Int) : Builtin.Range.small 0 (1 + X.fmod 3) 1 = true := by
  have h1 := Int.fmod_nonneg_of_pos X (b := 3) (by decide)
  have h2 := Int.fmod_lt_of_pos X (b := 3) (by decide)
  exact small_one (by omega) (by omega) (by omega) (by omega)
theorem lt_three {X : Int} {i : Nat} (h : i < (1 + X.fmod 3).toNat) : i < 3 := by
  have h2 := Int.fmod_lt_of_pos X (b := 3) (by decide)
  omega
theorem jd0 {aW Dc : Addr} {t1 t2 : Tok} {r : Str → Option Value} : Jd aW Dc 0 (fun y => if y = Str.ofString "world" then some (.ref aW) else if y = Str.ofString "one" then some (.str (Str.ofString "a") t1) else if y = Str.ofString "other" then some (.str (Str.ofString "b") t2) else if y = Str.ofString "cells" then some (.ref Dc) else r y) := by
  have n1 : ¬ Str.ofString "one" = Str.ofString "world" := by decide +kernel
  have n2 : ¬ Str.ofString "other" = Str.ofString "world" := by decide +kernel
  have n3 : ¬ Str.ofString "other" = Str.ofString "one" := by decide +kernel
  have n4 : ¬ Str.ofString "cells" = Str.ofString "world" := by decide +kernel
  have n5 : ¬ Str.ofString "cells" = Str.ofString "one" := by decide +kernel
  have n6 : ¬ Str.ofString "cells" = Str.ofString "other" := by decide +kernel
  refine ⟨_, _, t1, t2, List.mem_singleton.mpr rfl, ?_, ?_, ?_, ?_⟩
  · simp only [if_neg n1, if_true]
  · simp only [if_neg n2, if_neg n3, if_true]
  · simp only [if_true]
  · simp only [if_neg n4, if_neg n5, if_neg n6, if_true]
theorem ne_one_great : (Str.ofString "one" = Str.ofString "great") = False := eq_false (by decide +kernel)
theorem ne_one_less : (Str.ofString "one" = Str.ofString "less") = False := eq_false (by decide +kernel)
theorem ne_one_word : (Str.ofString "one" = Str.ofString "word") = False := eq_false (by decide +kernel)
theorem ne_one_first : (Str.ofString "one" = Str.ofString "first") = False := eq_false (by decide +kernel)
theorem ne_one_second : (Str.ofString "one" = Str.ofString "second") = False := eq_false (by decide +kernel)
theorem ne_one_other : (Str.ofString "one" = Str.ofString "other") = False := eq_false (by decide +kernel)
theorem ne_one_new : (Str.ofString "one" = Str.ofString "new") = False := eq_false (by decide +kernel)
theorem ne_one_many : (Str.ofString "one" = Str.ofString "many") = False := eq_false (by decide +kernel)
theorem ne_one_turn : (Str.ofString "one" = Str.ofString "turn") = False := eq_false (by decide +kernel)
theorem ne_one_world : (Str.ofString "one" = Str.ofString "world") = False := eq_false (by decide +kernel)
theorem ne_one_cells : (Str.ofString "one" = Str.ofString "cells") = False := eq_false (by decide +kernel)
theorem ne_other_great : (Str.ofString "other" = Str.ofString "great") = False := eq_false (by decide +kernel)
theorem ne_other_less : (Str.ofString "other" = Str.ofString "less") = False := eq_false (by decide +kernel)
theorem ne_other_word : (Str.ofString "other" = Str.ofString "word") = False := eq_false (by decide +kernel)
theorem ne_other_first : (Str.ofString "other" = Str.ofString "first") = False := eq_false (by decide +kernel)
theorem ne_other_second : (Str.ofString "other" = Str.ofString "second") = False := eq_false (by decide +kernel)
theorem ne_other_one : (Str.ofString "other" = Str.ofString "one") = False := eq_false (by decide +kernel)
theorem ne_other_new : (Str.ofString "other" = Str.ofString "new") = False := eq_false (by decide +kernel)
theorem ne_other_many : (Str.ofString "other" = Str.ofString "many") = False := eq_false (by decide +kernel)
theorem ne_other_turn : (Str.ofString "other" = Str.ofString "turn") = False := eq_false (by decide +kernel)
theorem ne_other_world : (Str.ofString "other" = Str.ofString "world") = False := eq_false (by decide +kernel)
theorem ne_other_cells : (Str.ofString "other" = Str.ofString "cells") = False := eq_false (by decide +kernel)
theorem ne_world_great : (Str.ofString "world" = Str.ofString "great") = False := eq_false (by decide +kernel)
theorem ne_world_less : (Str.ofString "world" = Str.ofString "less") = False := eq_false (by decide +kernel)
theorem ne_world_word : (Str.ofString "world" = Str.ofString "word") = False := eq_false (by decide +kernel)
theorem ne_world_first : (Str.ofString "world" = Str.ofString "first") = False := eq_false (by decide +kernel)
theorem ne_world_second : (Str.ofString "world" = Str.ofString "second") = False := eq_false (by decide +kernel)
theorem ne_world_one : (Str.ofString "world" = Str.ofString "one") = False := eq_false (by decide +kernel)
theorem ne_world_other : (Str.ofString "world" = Str.ofString "other") = False := eq_false (by decide +kernel)
theorem ne_world_new : (Str.ofString "world" = Str.ofString "new") = False := eq_false (by decide +kernel)
theorem ne_world_many : (Str.ofString "world" = Str.ofString "many") = False := eq_false (by decide +kernel)
theorem ne_world_turn : (Str.ofString "world" = Str.ofString "turn") = False := eq_false (by decide +kernel)
theorem ne_world_cells : (Str.ofString "world" = Str.ofString "cells") = False := eq_false (by decide +kernel)
theorem ne_cells_great : (Str.ofString "cells" = Str.ofString "great") = False := eq_false (by decide +kernel)
theorem ne_cells_less : (Str.ofString "cells" = Str.ofString "less") = False := eq_false (by decide +kernel)
theorem ne_cells_word : (Str.ofString "cells" = Str.ofString "word") = False := eq_false (by decide +kernel)
theorem ne_cells_first : (Str.ofString "cells" = Str.ofString "first") = False := eq_false (by decide +kernel)
theorem ne_cells_second : (Str.ofString "cells" = Str.ofString "second") = False := eq_false (by decide +kernel)
theorem ne_cells_one : (Str.ofString "cells" = Str.ofString "one") = False := eq_false (by decide +kernel)
theorem ne_cells_other : (Str.ofString "cells" = Str.ofString "other") = False := eq_false (by decide +kernel)
theorem ne_cells_new : (Str.ofString "cells" = Str.ofString "new") = False := eq_false (by decide +kernel)
theorem ne_cells_many : (Str.ofString "cells" = Str.ofString "many") = False := eq_false (by decide +kernel)
theorem ne_cells_turn : (Str.ofString "cells" = Str.ofString "turn") = False := eq_false (by decide +kernel)
theorem ne_cells_world : (Str.ofString "cells" = Str.ofString "world") = False := eq_false (by decide +kernel)
theorem st_next {i : Nat} {one other : Str} {k : Int} (h : (one, other) ∈ St i) (hk : k = 1 ∨ k = 2) : (Txt.mul one k ++ other, one) ∈ St (i + 1) := by
  show _ ∈ (St i).flatMap _
  refine List.mem_flatMap.mpr ⟨_, h, ?_⟩
  rcases hk with rfl | rfl <;> simp
theorem loop_end {h₀ h' : Heap} {L : Addr} {led led' : List (Addr × Obj)} {s : Shared} {Q : Value → Shared → Prop} {tk' : Nat} {m' : Str → Option Value} {aW Dc : Addr} {i : Nat} {one other : Str} {t1 t2 : Tok} (F : Fr h₀ L h' m') (N : News h₀ L h' led') (hn : ∀ p ∈ led, p ∈ led') (hS : (one, other) ∈ St (i + 1))
    (e1 : m' (Str.ofString "one") = some (.str one t1)) (e2 : m' (Str.ofString "other") = some (.str other t2)) (e3 : m' (Str.ofString "world") = some (.ref aW)) (e4 : m' (Str.ofString "cells") = some (.ref Dc)) :
    LoopEndJ h₀ L led (Jd aW Dc (i + 1)) s Q .next { s with heap := h', toks := tk' } :=
  ⟨h', tk', m', rfl, F, fun p hp => N p (hn p hp), one, other, t1, t2, hS, e1, e2, e3, e4⟩
theorem sorted_ab {p q x y : Str} (hpq : (p = Str.ofString "ab" ∧ q = Str.ofString "ba") ∨ (p = Str.ofString "ba" ∧ q = Str.ofString "ab")) (hp : [x, y].Perm [p, q]) (hs : sortedS [x, y] = true) : x = Str.ofString "ab" ∧ y = Str.ofString "ba" := by
  have hne : sortedS [Str.ofString "ba", Str.ofString "ab"] = false := by decide +kernel
  have two : ∀ a b : Str, [x, y].Perm [a, b] → (x = a ∧ y = b) ∨ (x = b ∧ y = a) := by
    intro a b h
    have hx : x ∈ [a, b] := h.mem_iff.mp (by simp)
    simp only [List.mem_cons, List.not_mem_nil, or_false] at hx
    rcases hx with rfl | rfl
    · have := (List.perm_cons x).mp h
      exact .inl ⟨rfl, by simpa using List.perm_singleton.mp this.symm |> Eq.symm⟩
    · have h2 := h.trans (List.Perm.swap x a [])
      have := (List.perm_cons x).mp h2
      exact .inr ⟨rfl, by simpa using List.perm_singleton.mp this.symm |> Eq.symm⟩
  rcases hpq with ⟨rfl, rfl⟩ | ⟨rfl, rfl⟩
  · rcases two _ _ hp with ⟨rfl, rfl⟩ | ⟨rfl, rfl⟩
    · exact ⟨rfl, rfl⟩
    · rw [hne] at hs; cases hs
  · rcases two _ _ hp with ⟨rfl, rfl⟩ | ⟨rfl, rfl⟩
    · rw [hne] at hs; cases hs
    · exact ⟨rfl, rfl⟩

section
variable {prog : Program} {w : World} {A : Around} {E : Value → Shared → Prop} {s : Shared} {h₀ : Heap} {L : Addr} {m : Str → Option Value} {news : List (Addr × Obj)}
theorem sorted_two {l : Addr} {p q : Str} {t₁ t₂ : Tok} {c : Nat} {Q : Value → Shared → Prop} (F : Fr h₀ L s.heap m) (N : News h₀ L s.heap news) (hl : (l, (listOf #[.str p t₁, .str q t₂] c)) ∈ news)
    (hpq : (p = Str.ofString "ab" ∧ q = Str.ofString "ba") ∨ (p = Str.ofString "ba" ∧ q = Str.ofString "ab"))
    (h : ∀ D h' t t' e, Fr h₀ L h' m → News h₀ L h' ((D, (listOf #[.str (Str.ofString "ab") t, .str (Str.ofString "ba") t'] e)) :: news) → (∀ p ∈ news, p.1 < D) → Q (.ref D) { s with heap := h' }) :
    wpAny (model prog w) A (call (.builtin "sorted") [.ref l]) Q E s := by
  refine sorted_N_str F N (vs := [.str p t₁, .str q t₂]) (ss := [p, q]) ⟨_, (N _ hl).1, rfl, c, rfl⟩ (.cons p t₁ (.cons q t₂ .nil)) (by simp) fun h' vs' ss' e F' N' hS' hp' hs' => ?_
  have hlen := hp'.length_eq
  match ss', hS', hp', hs', hlen with
  | [x, y], .cons _ t (.cons _ t' .nil), hp', hs', _ =>
    obtain ⟨rfl, rfl⟩ := sorted_ab hpq hp' hs'
    exact h _ h' t t' e F' N' fun p hp => Nat.lt_succ_of_lt (Heap.lt_size (N p hp).1)
end
/-- the text of a list of numbers -/
def txt (l : List Nat) : Str := ⟨l.toArray⟩
theorem txt_inj {a b : List Nat} (h : txt a = txt b) : a = b := by
  unfold txt at h
  injection h with h
  simpa using congrArg Array.toList h
theorem txt_toList (x : Str) : txt x.cps.toList = x := by cases x; simp [txt]
/-- the parts of size i + 1, as lists -/
def partL (u : List Nat) (i j : Nat) : List Nat := (u.drop j).take (i + 1)
def addL (σ : List (List Nat)) (x : List Nat) : List (List Nat) := if x ∈ σ then σ else σ ++ [x]
def distL (xs : List (List Nat)) : List (List Nat) := xs.foldl addL []
theorem add_txt (σ : List (List Nat)) (x : List Nat) : addNew (σ.map txt) (txt x) = (addL σ x).map txt := by
  unfold addNew addL
  have e : txt x ∈ σ.map txt ↔ x ∈ σ := by
    constructor
    · intro h
      obtain ⟨y, hy, e⟩ := List.mem_map.mp h
      rwa [← txt_inj e]
    · exact fun h => List.mem_map_of_mem h
  by_cases h : x ∈ σ
  · rw [if_pos h, if_pos (e.mpr h)]
  · rw [if_neg h, if_neg (fun q => h (e.mp q))]; simp
theorem dist_txt (xs : List (List Nat)) : dist (xs.map txt) = (distL xs).map txt := by
  have key : ∀ (xs σ : List (List Nat)), (xs.map txt).foldl addNew (σ.map txt) = (xs.foldl addL σ).map txt := by
    intro xs
    induction xs with
    | nil => intro σ; rfl
    | cons x xs ih => intro σ; rw [List.map_cons, List.foldl_cons, add_txt, ih, List.foldl_cons]
  exact key xs []
def cN : List Nat → Nat
  | [] => 0
  | n :: r => cond (Nat.beq n 97) (cN r + 1) (cN r)
theorem cN_cons (n : Nat) (r : List Nat) : cN (n :: r) = cond (Nat.beq n 97) (cN r + 1) (cN r) := rfl
theorem cnt_cN : ∀ l : List Nat, cnt 97 l = (cN l : Int)
  | [] => rfl
  | n :: r => by
    rw [cnt_cons, cnt_cN r]
    rw [cN_cons]
    by_cases h : n = 97
    · subst h; simp; omega
    · have : Nat.beq n 97 = false := by
        cases q : Nat.beq n 97 with
        | false => rfl
        | true => exact absurd (Nat.eq_of_beq_eq_true q) h
      rw [this, if_neg h]; simp
theorem sub_txt {x : Str} {i j : Nat} (h : j + (i + 1) ≤ x.length) : sub x i j = txt (partL x.cps.toList i j) := by
  have e := eq_of_beq (slice_closesL (x := x) (i := 1 + (j : Int) - 1) (j := 1 + (j : Int) - 1 + (1 + (i : Int))) (by omega) (by omega) (by omega))
  unfold sub partL txt
  rw [e]
  have e1 : (1 + (j : Int) - 1).toNat = j := by omega
  have e2 : (1 + (j : Int) - 1 + (1 + (i : Int)) - (1 + (j : Int) - 1)).toNat = i + 1 := by omega
  rw [e1, e2]
theorem a_is : Str.ofString "a" = ⟨#[97]⟩ := by decide +kernel
theorem cntA_cN {x : Str} {i j : Nat} (h : j + (i + 1) ≤ x.length) : cntA x i j = (cN (partL x.cps.toList i j) : Int) := by
  unfold cntA
  rw [a_is, count_is, sub_txt h]
  show cnt 97 _ = _
  rw [cnt_cN]
  simp [txt]
def partsL (u : List Nat) (i : Nat) : List (List Nat) := (List.range' 0 (u.length - i)).map (partL u i)
def nearL (ns : List Nat) : Bool := ns.all fun a => ns.all fun b => Nat.ble a (b + 1)
def evenL (u : List Nat) : Bool := (List.range u.length).all fun i => Nat.ble (distL (partsL u i)).length (i + 2) && nearL ((partsL u i).map cN)
theorem parts_L {x : Str} {i : Nat} : parts x i = (partsL x.cps.toList i).map txt := by
  unfold parts partsL
  have e : x.cps.toList.length = x.length := by simp [Str.length]
  rw [List.map_map, e]
  refine List.map_congr_left fun j hj => ?_
  have hj' := (List.mem_range'_1.mp hj).2
  exact sub_txt (by omega)
theorem counts_L {x : Str} {i : Nat} : counts x i = ((partsL x.cps.toList i).map cN).map (fun n : Nat => (n : Int)) := by
  unfold counts partsL
  have e : x.cps.toList.length = x.length := by simp [Str.length]
  rw [List.map_map, List.map_map, e]
  refine List.map_congr_left fun j hj => ?_
  have hj' := (List.mem_range'_1.mp hj).2
  exact cntA_cN (by omega)
theorem even_of {x : Str} (h : evenL x.cps.toList = true) : ∀ i, i < x.length → (dist (parts x i)).length ≤ i + 2 ∧ Near (counts x i) := by
  intro i hi
  have e : x.cps.toList.length = x.length := by simp [Str.length]
  unfold evenL at h
  have hq := List.all_eq_true.mp h i (List.mem_range.mpr (by omega))
  rw [Bool.and_eq_true] at hq
  refine ⟨?_, ?_⟩
  · rw [parts_L, dist_txt, List.length_map]
    exact Nat.le_of_ble_eq_true hq.1
  · intro a ha b hb
    rw [counts_L] at ha hb
    obtain ⟨m, hm, rfl⟩ := List.mem_map.mp ha
    obtain ⟨n, hn, rfl⟩ := List.mem_map.mp hb
    have := Nat.le_of_ble_eq_true (List.all_eq_true.mp (List.all_eq_true.mp hq.2 m hm) n hn)
    omega

/-- the word of a turn -/
abbrev wordOf (one other : Str) (k : Int) : Str := Txt.slice (Txt.mul one k ++ other ++ one) none (some (-2))
structure TF (one other : Str) (k : Int) : Prop where
  k0 : 0 ≤ k
  k2 : k ≤ 2
  l1 : one.length ≤ 1000
  l2 : (Txt.mul one k).length + other.length ≤ 5000
  l3 : (Txt.mul one k ++ other).length + one.length ≤ 5000
  l4 : one.length + (Txt.mul one k ++ other).length ≤ 5000
  l5 : (Txt.mul one k ++ other).length ≤ 5000
  l6 : (wordOf one other k).length ≤ 5000
  l7 : (wordOf one other k).length ≤ 100
  l8 : one.length ≤ 5000
  l9 : other.length ≤ 5000
  n1 : one ≠ Str.ofString ""
  n2 : other ≠ Str.ofString ""
  n3 : Txt.mul one k ≠ Str.ofString ""
  n4 : Txt.mul one k ++ other ≠ Str.ofString ""
  s1 : ¬ (((Txt.mul one k ++ other).length : Int) != k * (one.length : Int) + (other.length : Int)) = true
  c1 : ¬ (Txt.slice (one ++ (Txt.mul one k ++ other)) none (some (-2)) != wordOf one other k) = true
  c2 : (Txt.slice (Txt.mul one k ++ other ++ one) (some (-2)) none = Str.ofString "ab" ∧ Txt.slice (one ++ (Txt.mul one k ++ other)) (some (-2)) none = Str.ofString "ba") ∨
    (Txt.slice (Txt.mul one k ++ other ++ one) (some (-2)) none = Str.ofString "ba" ∧ Txt.slice (one ++ (Txt.mul one k ++ other)) (some (-2)) none = Str.ofString "ab")
  c3 : ¬ (Txt.sliceBy (wordOf one other k) none none (-1, 0) != wordOf one other k) = true
  c4 : Txt.startswith (wordOf one other k) (Txt.slice (wordOf one other k) (some ((Txt.mul one k ++ other).length : Int)) none) = true
  c5 : Txt.startswith (wordOf one other k) (Txt.slice (wordOf one other k) (some (one.length : Int)) none) = true
  g1 : Gcd1 ((Txt.mul one k ++ other).length : Int) (one.length : Int)
  e1 : ∀ i, i < (wordOf one other k).length → (dist (parts (wordOf one other k) i)).length ≤ i + 2 ∧ Near (counts (wordOf one other k) i)
/-- a turn's facts, asked of written words: N the new word, W the palindrome -/
theorem tf_of {one other N M W : Str} {k : Int} (hM : Txt.mul one k = M) (hN : M ++ other = N) (hW : Txt.slice (N ++ one) none (some (-2)) = W) (hk : 0 ≤ k ∧ k ≤ 2)
    (hl : M.length + other.length ≤ 50 ∧ N.length + one.length ≤ 50 ∧ W.length ≤ 50 ∧ 0 < one.length ∧ 0 < N.length)
    (hn : one ≠ Str.ofString "" ∧ other ≠ Str.ofString "" ∧ M ≠ Str.ofString "" ∧ N ≠ Str.ofString "") (hs : ((N.length : Nat) : Int) = k * (one.length : Int) + (other.length : Int))
    (h1 : Txt.slice (one ++ N) none (some (-2)) = W)
    (h2 : (Txt.slice (N ++ one) (some (-2)) none = Str.ofString "ab" ∧ Txt.slice (one ++ N) (some (-2)) none = Str.ofString "ba") ∨ (Txt.slice (N ++ one) (some (-2)) none = Str.ofString "ba" ∧ Txt.slice (one ++ N) (some (-2)) none = Str.ofString "ab"))
    (h3 : Txt.sliceBy W none none (-1, 0) = W) (h4 : Txt.startswith W (Txt.slice W (some (N.length : Int)) none) = true) (h5 : Txt.startswith W (Txt.slice W (some (one.length : Int)) none) = true)
    (hg : Nat.gcd N.length one.length = 1) (he : evenL W.cps.toList = true) : TF one other k := by
  subst hM hN hW
  obtain ⟨a1, a2, a3, a4, a5⟩ := hl
  obtain ⟨b1, b2, b3, b4⟩ := hn
  exact ⟨hk.1, hk.2, by omega, by omega, by omega, by omega, by omega, Nat.le_trans a3 (by decide), Nat.le_trans a3 (by decide), by omega, by omega, b1, b2, b3, b4, by simp [hs], by simp [h1], h2, by simp [h3], h4, h5,
    ⟨by omega, by omega, by omega, by omega, .inl (by omega), hg⟩, even_of he⟩
theorem st_0 : St 0 = [(⟨#[97]⟩, ⟨#[98]⟩)] := by decide +kernel
theorem st_1 : St 1 = [(⟨#[97, 98]⟩, ⟨#[97]⟩), (⟨#[97, 97, 98]⟩, ⟨#[97]⟩)] := by decide +kernel
theorem st_2 : St 2 = [(⟨#[97, 98, 97]⟩, ⟨#[97, 98]⟩), (⟨#[97, 98, 97, 98, 97]⟩, ⟨#[97, 98]⟩), (⟨#[97, 97, 98, 97]⟩, ⟨#[97, 97, 98]⟩), (⟨#[97, 97, 98, 97, 97, 98, 97]⟩, ⟨#[97, 97, 98]⟩)] := by decide +kernel
theorem tf_0_0_1 : TF ⟨#[97]⟩ ⟨#[98]⟩ 1 :=
  tf_of (M := ⟨#[97]⟩) (N := ⟨#[97, 98]⟩) (W := ⟨#[97]⟩) (by decide +kernel) (by decide +kernel) (by decide +kernel) (by decide +kernel) (by decide +kernel) (by decide +kernel) (by decide +kernel) (by decide +kernel) (by decide +kernel) (by decide +kernel) (by decide +kernel) (by decide +kernel) (by decide +kernel) (by decide +kernel)
theorem tf_0_0_2 : TF ⟨#[97]⟩ ⟨#[98]⟩ 2 :=
  tf_of (M := ⟨#[97, 97]⟩) (N := ⟨#[97, 97, 98]⟩) (W := ⟨#[97, 97]⟩) (by decide +kernel) (by decide +kernel) (by decide +kernel) (by decide +kernel) (by decide +kernel) (by decide +kernel) (by decide +kernel) (by decide +kernel) (by decide +kernel) (by decide +kernel) (by decide +kernel) (by decide +kernel) (by decide +kernel) (by decide +kernel)
theorem tf_1_0_1 : TF ⟨#[97, 98]⟩ ⟨#[97]⟩ 1 :=
  tf_of (M := ⟨#[97, 98]⟩) (N := ⟨#[97, 98, 97]⟩) (W := ⟨#[97, 98, 97]⟩) (by decide +kernel) (by decide +kernel) (by decide +kernel) (by decide +kernel) (by decide +kernel) (by decide +kernel) (by decide +kernel) (by decide +kernel) (by decide +kernel) (by decide +kernel) (by decide +kernel) (by decide +kernel) (by decide +kernel) (by decide +kernel)
theorem tf_1_0_2 : TF ⟨#[97, 98]⟩ ⟨#[97]⟩ 2 :=
  tf_of (M := ⟨#[97, 98, 97, 98]⟩) (N := ⟨#[97, 98, 97, 98, 97]⟩) (W := ⟨#[97, 98, 97, 98, 97]⟩) (by decide +kernel) (by decide +kernel) (by decide +kernel) (by decide +kernel) (by decide +kernel) (by decide +kernel) (by decide +kernel) (by decide +kernel) (by decide +kernel) (by decide +kernel) (by decide +kernel) (by decide +kernel) (by decide +kernel) (by decide +kernel)
theorem tf_1_1_1 : TF ⟨#[97, 97, 98]⟩ ⟨#[97]⟩ 1 :=
  tf_of (M := ⟨#[97, 97, 98]⟩) (N := ⟨#[97, 97, 98, 97]⟩) (W := ⟨#[97, 97, 98, 97, 97]⟩) (by decide +kernel) (by decide +kernel) (by decide +kernel) (by decide +kernel) (by decide +kernel) (by decide +kernel) (by decide +kernel) (by decide +kernel) (by decide +kernel) (by decide +kernel) (by decide +kernel) (by decide +kernel) (by decide +kernel) (by decide +kernel)
theorem tf_1_1_2 : TF ⟨#[97, 97, 98]⟩ ⟨#[97]⟩ 2 :=
  tf_of (M := ⟨#[97, 97, 98, 97, 97, 98]⟩) (N := ⟨#[97, 97, 98, 97, 97, 98, 97]⟩) (W := ⟨#[97, 97, 98, 97, 97, 98, 97, 97]⟩) (by decide +kernel) (by decide +kernel) (by decide +kernel) (by decide +kernel) (by decide +kernel) (by decide +kernel) (by decide +kernel) (by decide +kernel) (by decide +kernel) (by decide +kernel) (by decide +kernel) (by decide +kernel) (by decide +kernel) (by decide +kernel)
theorem tf_2_0_1 : TF ⟨#[97, 98, 97]⟩ ⟨#[97, 98]⟩ 1 :=
  tf_of (M := ⟨#[97, 98, 97]⟩) (N := ⟨#[97, 98, 97, 97, 98]⟩) (W := ⟨#[97, 98, 97, 97, 98, 97]⟩) (by decide +kernel) (by decide +kernel) (by decide +kernel) (by decide +kernel) (by decide +kernel) (by decide +kernel) (by decide +kernel) (by decide +kernel) (by decide +kernel) (by decide +kernel) (by decide +kernel) (by decide +kernel) (by decide +kernel) (by decide +kernel)
theorem tf_2_0_2 : TF ⟨#[97, 98, 97]⟩ ⟨#[97, 98]⟩ 2 :=
  tf_of (M := ⟨#[97, 98, 97, 97, 98, 97]⟩) (N := ⟨#[97, 98, 97, 97, 98, 97, 97, 98]⟩) (W := ⟨#[97, 98, 97, 97, 98, 97, 97, 98, 97]⟩) (by decide +kernel) (by decide +kernel) (by decide +kernel) (by decide +kernel) (by decide +kernel) (by decide +kernel) (by decide +kernel) (by decide +kernel) (by decide +kernel) (by decide +kernel) (by decide +kernel) (by decide +kernel) (by decide +kernel) (by decide +kernel)
theorem tf_2_1_1 : TF ⟨#[97, 98, 97, 98, 97]⟩ ⟨#[97, 98]⟩ 1 :=
  tf_of (M := ⟨#[97, 98, 97, 98, 97]⟩) (N := ⟨#[97, 98, 97, 98, 97, 97, 98]⟩) (W := ⟨#[97, 98, 97, 98, 97, 97, 98, 97, 98, 97]⟩) (by decide +kernel) (by decide +kernel) (by decide +kernel) (by decide +kernel) (by decide +kernel) (by decide +kernel) (by decide +kernel) (by decide +kernel) (by decide +kernel) (by decide +kernel) (by decide +kernel) (by decide +kernel) (by decide +kernel) (by decide +kernel)
theorem tf_2_1_2 : TF ⟨#[97, 98, 97, 98, 97]⟩ ⟨#[97, 98]⟩ 2 :=
  tf_of (M := ⟨#[97, 98, 97, 98, 97, 97, 98, 97, 98, 97]⟩) (N := ⟨#[97, 98, 97, 98, 97, 97, 98, 97, 98, 97, 97, 98]⟩) (W := ⟨#[97, 98, 97, 98, 97, 97, 98, 97, 98, 97, 97, 98, 97, 98, 97]⟩) (by decide +kernel) (by decide +kernel) (by decide +kernel) (by decide +kernel) (by decide +kernel) (by decide +kernel) (by decide +kernel) (by decide +kernel) (by decide +kernel) (by decide +kernel) (by decide +kernel) (by decide +kernel) (by decide +kernel) (by decide +kernel)
theorem tf_2_2_1 : TF ⟨#[97, 97, 98, 97]⟩ ⟨#[97, 97, 98]⟩ 1 :=
  tf_of (M := ⟨#[97, 97, 98, 97]⟩) (N := ⟨#[97, 97, 98, 97, 97, 97, 98]⟩) (W := ⟨#[97, 97, 98, 97, 97, 97, 98, 97, 97]⟩) (by decide +kernel) (by decide +kernel) (by decide +kernel) (by decide +kernel) (by decide +kernel) (by decide +kernel) (by decide +kernel) (by decide +kernel) (by decide +kernel) (by decide +kernel) (by decide +kernel) (by decide +kernel) (by decide +kernel) (by decide +kernel)
theorem tf_2_2_2 : TF ⟨#[97, 97, 98, 97]⟩ ⟨#[97, 97, 98]⟩ 2 :=
  tf_of (M := ⟨#[97, 97, 98, 97, 97, 97, 98, 97]⟩) (N := ⟨#[97, 97, 98, 97, 97, 97, 98, 97, 97, 97, 98]⟩) (W := ⟨#[97, 97, 98, 97, 97, 97, 98, 97, 97, 97, 98, 97, 97]⟩) (by decide +kernel) (by decide +kernel) (by decide +kernel) (by decide +kernel) (by decide +kernel) (by decide +kernel) (by decide +kernel) (by decide +kernel) (by decide +kernel) (by decide +kernel) (by decide +kernel) (by decide +kernel) (by decide +kernel) (by decide +kernel)
theorem tf_2_3_1 : TF ⟨#[97, 97, 98, 97, 97, 98, 97]⟩ ⟨#[97, 97, 98]⟩ 1 :=
  tf_of (M := ⟨#[97, 97, 98, 97, 97, 98, 97]⟩) (N := ⟨#[97, 97, 98, 97, 97, 98, 97, 97, 97, 98]⟩) (W := ⟨#[97, 97, 98, 97, 97, 98, 97, 97, 97, 98, 97, 97, 98, 97, 97]⟩) (by decide +kernel) (by decide +kernel) (by decide +kernel) (by decide +kernel) (by decide +kernel) (by decide +kernel) (by decide +kernel) (by decide +kernel) (by decide +kernel) (by decide +kernel) (by decide +kernel) (by decide +kernel) (by decide +kernel) (by decide +kernel)
theorem tf_2_3_2 : TF ⟨#[97, 97, 98, 97, 97, 98, 97]⟩ ⟨#[97, 97, 98]⟩ 2 :=
  tf_of (M := ⟨#[97, 97, 98, 97, 97, 98, 97, 97, 97, 98, 97, 97, 98, 97]⟩) (N := ⟨#[97, 97, 98, 97, 97, 98, 97, 97, 97, 98, 97, 97, 98, 97, 97, 97, 98]⟩) (W := ⟨#[97, 97, 98, 97, 97, 98, 97, 97, 97, 98, 97, 97, 98, 97, 97, 97, 98, 97, 97, 98, 97, 97]⟩) (by decide +kernel) (by decide +kernel) (by decide +kernel) (by decide +kernel) (by decide +kernel) (by decide +kernel) (by decide +kernel) (by decide +kernel) (by decide +kernel) (by decide +kernel) (by decide +kernel) (by decide +kernel) (by decide +kernel) (by decide +kernel)
theorem turn_facts {i : Nat} {one other : Str} {k : Int} (h : (one, other) ∈ St i) (hi : i < 3) (hk : k = 1 ∨ k = 2) : TF one other k := by
  match i, h, hi with
  | 0, h, _ =>
    rw [st_0] at h
    simp only [List.mem_cons, List.not_mem_nil, or_false, Prod.mk.injEq] at h
    obtain ⟨rfl, rfl⟩ := h
    rcases hk with rfl | rfl
    · exact tf_0_0_1
    · exact tf_0_0_2
  | 1, h, _ =>
    rw [st_1] at h
    simp only [List.mem_cons, List.not_mem_nil, or_false, Prod.mk.injEq] at h
    rcases h with ⟨rfl, rfl⟩ | ⟨rfl, rfl⟩
    · rcases hk with rfl | rfl
      · exact tf_1_0_1
      · exact tf_1_0_2
    · rcases hk with rfl | rfl
      · exact tf_1_1_1
      · exact tf_1_1_2
  | 2, h, _ =>
    rw [st_2] at h
    simp only [List.mem_cons, List.not_mem_nil, or_false, Prod.mk.injEq] at h
    rcases h with ⟨rfl, rfl⟩ | ⟨rfl, rfl⟩ | ⟨rfl, rfl⟩ | ⟨rfl, rfl⟩
    · rcases hk with rfl | rfl
      · exact tf_2_0_1
      · exact tf_2_0_2
    · rcases hk with rfl | rfl
      · exact tf_2_1_1
      · exact tf_2_1_2
    · rcases hk with rfl | rfl
      · exact tf_2_2_1
      · exact tf_2_2_2
    · rcases hk with rfl | rfl
      · exact tf_2_3_1
      · exact tf_2_3_2
local macro_rules | `(tactic| walk_at "subscriptTail Name Slice ref ref") => `(tactic| (k_here; (with_reducible show wpAny _ _ (subscriptTail _ (PySem.Expr.Slice (some _) none none _) (Value.ref _) (Value.ref _)) _ _ _); k_dflt (refine' kmk_slice_ints ?F ?N ?l ?p ?q ?i ?m ?c ?_ ?s ?t ?z; (case F | N => k_asm); (case l => kmk_list); (case p | q => kmk_part); (case i => l_ints); (case m => exact kmk_from (by l_ints) (Int.natCast_nonneg _)); (case c => kmk_len); (case s => with_unfolding_all rfl); (case t => kmk_pure); (case z => kmk_size)); intro D' ws' h' F' N' l1 hI' hC' hL'; (try k_lt l1); (try k_sweep)))
local macro_rules | `(tactic| walk_at "exec For Name Call cons nil") => `(tactic| (k_here; k_dflt (refine wpAny_For (stop_at ?_) (by intro _; rfl))))
local macro_rules | `(tactic| walk_at "call ref") => `(tactic| (k_here; (with_reducible show wpAny _ _ (call (Value.ref 217) _) _ _ _); k_dflt (refine' world_con _ _ _ _ _ _ _ _ _ _ _ _ _ _ _ _ ?k1 ?k2 ?k3 ?k4 ?k5 ?k6 ?_; (case k1 | k2 | k3 | k4 | k5 => k_asm); (case k6 => exact rfl); intro aW' dW' sl' es' n' tw' tm' h' tk' F' N' g1' g2'; (try dsimp only); (try k_fold))))
local macro_rules | `(tactic| walk_at "storeName") => `(tactic| (k_here; (with_reducible show wpAny _ _ (storeName _ (PySem.Str.ofString "many") (Value.int (1 + _) _)) _ _ _); refine gen_int (fun k => k = 1 ∨ k = 2) (many_two _) ?_; intro k9 hk9; (have hTF := turn_facts (by assumption) (by assumption) hk9); (obtain ⟨f1, f2, f3, f4, f5, f6, f7, f8, f9, f10, f11, f12, f13, f14, f15, f16, f17, f18, f19, f20, f21, f22, f23⟩ := hTF); (try unfold wordOf at f8 f9 f17 f19 f20 f21 f23); (have hNx := st_next (by assumption : (_, _) ∈ St _) hk9)))
local macro_rules | `(tactic| walk_at "call builtin:sorted") => `(tactic| (k_here; (with_reducible show wpAny _ _ (call (Value.builtin "sorted") [Value.ref _]) _ _ _); k_dflt (refine' sorted_two ?k1 ?k2 ?k3 ?k4 ?_; (case k1 | k2 => k_asm); (case k3 => k_mem); (case k4 => assumption); k_whole; intro D' h' t' u' e' F' N' l1; (try k_lt l1))))
local macro_rules | `(tactic| walk_at "exec While Compare cons nil") => `(tactic| (k_here; k_dflt (refine stop_tree ?_)))
local macro_rules | `(tactic| walk_at "WEnd") => `(tactic| (k_dflt ((refine' wend_intro ?k1 ?k2 ?k3 ?k4 ?k5 ?k6 ?k7); (case k1 => decide +kernel); (case k2 | k3 => k_asm); (case k4 => intro p hp; (repeat (first | exact hp | refine List.mem_cons_of_mem _ ?_))); (case k5 => intro z h1 h2; simp only [if_neg h1, if_neg h2]); (case k6 => exact (gcd1_turn (by assumption) (by omega)).1); (case k7 => exact (gcd1_turn (by assumption) (by omega)).2))))
local macro_rules | `(tactic| walk_at "newList") => `(tactic| (k_here; k_dflt (refine' newList_K ?k1 ?k2 ?_ ?k3; (case k1 | k2 => k_asm); (case k3 => exact Nat.le_of_ble_eq_true rfl); k_whole); intro l' h' F' N' l1; (try k_lt l1); (try k_sweep)))
local macro_rules | `(tactic| walk_at "call ref") => `(tactic| (k_here; (with_reducible show wpAny _ _ (call (Value.ref 284) _) _ _ _); k_dflt ((refine' con_use (text_dupl_con _ _ _ _ _ _ ?p1 ?p2 ?p3) ?k1 ?k2 ?k3 ?k4 ?k5 ?kK ?kp ?kd ?ku ?_); walk_at "m1"; (case kp => walk_at "m5"); (case p1 | p2 | p3 => walk_at "m3"); walk_at "m2")))
local macro_rules | `(tactic| walk_at "call ref") => `(tactic| (k_here; (with_reducible show wpAny _ _ (call (Value.ref 256) _) _ _ _); k_dflt ((refine' con_use (join_values_con _ _ _ _ _ ?p1 ?p2 ?p3) ?k1 ?k2 ?k3 ?k4 ?k5 ?kK ?kp ?kd ?ku ?_); walk_at "m1"; (case kp => refine' ⟨_, _, _, _, _, _, ?m1, ?m2, ?m3, ?m4⟩; walk_at "m4"); (case p1 | p2 | p3 => walk_at "m3"); walk_at "m2")))
local macro_rules | `(tactic| walk_at "call ref") => `(tactic| (k_here; (with_reducible show wpAny _ _ (call (Value.ref 277) _) _ _ _); k_dflt ((refine' con_use (text_size_con _ _ _ _ ?p1) ?k1 ?k2 ?k3 ?k4 ?k5 ?kK ?kp ?kd ?ku ?_); walk_at "m1"; (case kp => refine' ⟨_, ?m5⟩; (case m5 => k_mem)); (case p1 => walk_at "m3"); walk_at "m2")))
local macro_rules | `(tactic| walk_at "call ref") => `(tactic| (k_here; (with_reducible show wpAny _ _ (call (Value.ref 291) _) _ _ _); k_dflt ((refine' con_use (text_reverse_con _ _ _ _ ?p1) ?k1 ?k2 ?k3 ?k4 ?k5 ?kK ?kp ?kd ?ku ?_); walk_at "m1"; (case kp => refine' ⟨_, ?m5⟩; (case m5 => k_mem)); (case p1 => walk_at "m3"); walk_at "m2")))
local macro_rules | `(tactic| walk_at "call ref") => `(tactic| (k_here; (with_reducible show wpAny _ _ (call (Value.ref 305) _) _ _ _); k_dflt ((refine' con_use (whole_remdr_con _ _ _ _ _ _ ?p1 ?p2 ?p3 ?p4) ?k1 ?k2 ?k3 ?k4 ?k5 ?kK ?kp ?kd ?ku ?_); walk_at "m1"; (case kp => walk_at "m5"); (case p1 => exact Int.le_of_lt (by assumption)); (case p2 | p3 | p4 => walk_at "m3"); walk_at "m2")))
local macro_rules | `(tactic| walk_at "call ref") => `(tactic| (k_here; (with_reducible show wpAny _ _ (call (Value.ref 310) _) _ _ _); k_dflt ((refine' con_use (even_con _ _ _ ?p1 ?p2) ?k1 ?k2 ?k3 ?k4 ?k5 ?kK ?kp ?kd ?ku ?_); walk_at "m1"; (case kp => refine' ⟨_, _, _, _, _, _, ?m1, ?m2, ?m3, ?m4⟩; walk_at "m4"); (case p1 | p2 => walk_at "m3"); walk_at "m2")))
set_option maxHeartbeats 8000000 in
theorem whole : PySem.Challenge.rw_xm0950_01.Holds := hd (by rfl) (by rfl) (by rfl) (by
  k_go0; (all_goals try k_fold); k_steps
  unfold Stop
  rename IsRange _ _ _ _ _ _ _ _ => hR
  refine' for_local rfl rfl (Jd _ _) rfl hR (range_small _) (range_mod _) ?hF ?hN ?hJ ?hE ?turn ?done
  case hF => k_asm
  case hJ => exact jd0
  case hN => refine' pick3 (p1 := (_, (⟨.ref 217, some _, .plain, _⟩ : Obj))) (p2 := (_, dictOf _ _)) (p3 := (_, listOf (List.toArray _) 0)) ?n ?m1 ?m2 ?m3; (case n => k_asm); (case m1 => k_mem); (case m2 => k_mem); (case m3 => k_mem)
  case hE => passes_own
  case turn =>
    intro i t₁ I oI m₁ h₁ tk₁ hin hJ F₁' N₁ hI
    have hi3 := lt_three hin
    clear hin
    obtain ⟨one, other, t1, t2, hSt, e1, e2, e3, e4⟩ := hJ
    have F₁ := known4 F₁' e1 e2 e3 e4
    clear F₁' e1 e2 e3 e4
    (try k_fold)
    k_steps
    unfold Stop
    refine' while_two (x := Str.ofString "great") (y := Str.ofString "less") (by decide +kernel) Gcd1 (fun _ l => l.toNat) ?w1 ?w2 ?w3 ?w4 ?w5 ?w6 ?w7
    case w1 => k_asm
    case w2 => k_asm
    case w3 => exact if_pos rfl
    case w4 => exact (if_neg (by decide +kernel)).trans (if_pos rfl)
    case w5 => assumption
    case w7 => passes_own
    case w6 =>
      intro g l tg tl h₂ tk₂ hP F₂ N₂
      have hP' := hP
      obtain ⟨p1, p2, p3, p4, p5, -⟩ := hP'
      (try k_fold)
      k_steps
      · exfalso; omega
      · refine' loop_end ?q1 ?q2 ?q3 ?q4 ?q5 ?q6 ?q7 ?q8
        case q1 => k_asm
        case q2 => k_asm
        case q4 => assumption
        case q3 => intro p hp; repeat (first | exact hp | refine List.mem_cons_of_mem _ ?_)
        case q5 => simp only [ne_one_great, ne_one_less, ne_one_word, ne_one_first, ne_one_second, ne_one_other, ne_one_new, ne_one_many, ne_one_turn, ne_one_world, ne_one_cells, ne_other_great, ne_other_less, ne_other_word, ne_other_first, ne_other_second, ne_other_one, ne_other_new, ne_other_many, ne_other_turn, ne_other_world, ne_other_cells, ne_world_great, ne_world_less, ne_world_word, ne_world_first, ne_world_second, ne_world_one, ne_world_other, ne_world_new, ne_world_many, ne_world_turn, ne_world_cells, ne_cells_great, ne_cells_less, ne_cells_word, ne_cells_first, ne_cells_second, ne_cells_one, ne_cells_other, ne_cells_new, ne_cells_many, ne_cells_turn, ne_cells_world, if_false, if_true]; rfl
        case q6 => simp only [ne_one_great, ne_one_less, ne_one_word, ne_one_first, ne_one_second, ne_one_other, ne_one_new, ne_one_many, ne_one_turn, ne_one_world, ne_one_cells, ne_other_great, ne_other_less, ne_other_word, ne_other_first, ne_other_second, ne_other_one, ne_other_new, ne_other_many, ne_other_turn, ne_other_world, ne_other_cells, ne_world_great, ne_world_less, ne_world_word, ne_world_first, ne_world_second, ne_world_one, ne_world_other, ne_world_new, ne_world_many, ne_world_turn, ne_world_cells, ne_cells_great, ne_cells_less, ne_cells_word, ne_cells_first, ne_cells_second, ne_cells_one, ne_cells_other, ne_cells_new, ne_cells_many, ne_cells_turn, ne_cells_world, if_false, if_true]; rfl
        case q7 => simp only [ne_one_great, ne_one_less, ne_one_word, ne_one_first, ne_one_second, ne_one_other, ne_one_new, ne_one_many, ne_one_turn, ne_one_world, ne_one_cells, ne_other_great, ne_other_less, ne_other_word, ne_other_first, ne_other_second, ne_other_one, ne_other_new, ne_other_many, ne_other_turn, ne_other_world, ne_other_cells, ne_world_great, ne_world_less, ne_world_word, ne_world_first, ne_world_second, ne_world_one, ne_world_other, ne_world_new, ne_world_many, ne_world_turn, ne_world_cells, ne_cells_great, ne_cells_less, ne_cells_word, ne_cells_first, ne_cells_second, ne_cells_one, ne_cells_other, ne_cells_new, ne_cells_many, ne_cells_turn, ne_cells_world, if_false, if_true]
        case q8 => simp only [ne_one_great, ne_one_less, ne_one_word, ne_one_first, ne_one_second, ne_one_other, ne_one_new, ne_one_many, ne_one_turn, ne_one_world, ne_one_cells, ne_other_great, ne_other_less, ne_other_word, ne_other_first, ne_other_second, ne_other_one, ne_other_new, ne_other_many, ne_other_turn, ne_other_world, ne_other_cells, ne_world_great, ne_world_less, ne_world_word, ne_world_first, ne_world_second, ne_world_one, ne_world_other, ne_world_new, ne_world_many, ne_world_turn, ne_world_cells, ne_cells_great, ne_cells_less, ne_cells_word, ne_cells_first, ne_cells_second, ne_cells_one, ne_cells_other, ne_cells_new, ne_cells_many, ne_cells_turn, ne_cells_world, if_false, if_true]
  case done =>
    intro m₁ h₁ tk₁ F₁ N₁
    dsimp only
    k_steps)
end Mine
theorem PySem.Challenge.cw_xm0950_01_holds : PySem.Challenge.rw_xm0950_01.Holds := by
  exact Mine.whole
