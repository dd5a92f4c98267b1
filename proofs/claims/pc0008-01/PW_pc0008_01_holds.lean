import PyProof.Rows.All
import Wide.All
import OpenK.AllK
import Wide.FinOn
import PySem.Challenge.RW_pc0008_01
section TextTB0
open PySem PySem.W PyProof.Rows
set_option Elab.async false
set_option maxRecDepth 100000
namespace Mine
noncomputable abbrev lawP : Program := PySem.Challenge.rw_pc0008_01.row.toRowW.1
noncomputable abbrev st (s : String) : Str := PySem.Str.ofString s
noncomputable abbrev iv (i : Int) : Value := Value.int i 0
noncomputable abbrev sv (s : String) (k : Nat) : Value := Value.str (PySem.Str.ofString s) k
noncomputable abbrev rv (a : Nat) : Value := Value.ref a
noncomputable def defParts : Option Stmt → Option (Arguments × List Stmt × Scope)
  | some (.FunctionDef _ ps b _ _ _ sc _ _ _) => some (ps, b, sc)
  | _ => none
noncomputable def defNo (n : Nat) : Option (Arguments × List Stmt × Scope) := defParts (lawP.main.body[n]?)
noncomputable def inClass : Option Stmt → Option Stmt
  | some (.ClassDef _ _ _ b _ _ _ _ _ _ _) => b.head?
  | _ => none
noncomputable def ctorDef : Option (Arguments × List Stmt × Scope) := defParts (inClass (lawP.main.body[2]?))
noncomputable abbrev withDef {α : Type} {x : Option (Arguments × List Stmt × Scope)} {ps : Arguments} {b : List Stmt} {sc : Scope} (_ : x = some (ps, b, sc)) (f : Arguments → List Stmt → Scope → α) : α := f ps b sc
noncomputable def hd.o2 (P : Params) : Obj := (Obj.mk Value.none .none (Data.dict #[(DictEntry.mk (PyData.keyHash P (st "type.__subclasses__.Exception.0")) (sv "type.__subclasses__.Exception.0" 221) (iv 34)), (DictEntry.mk (PyData.keyHash P (st "type.__subclasses__.Exception.n")) (sv "type.__subclasses__.Exception.n" 222) (iv 1))] 2) #[])
noncomputable def hd.o3 (P : Params) : Obj := (Obj.mk (Value.type "dict") .none (Data.dict #[(DictEntry.mk (PyData.keyHash P (st "__name__")) (sv "__name__" 165) (sv "law_pc0008_01" 534)), (DictEntry.mk (PyData.keyHash P (st "__doc__")) (sv "__doc__" 166) Value.none), (DictEntry.mk (PyData.keyHash P (st "__package__")) (sv "__package__" 167) Value.none), (DictEntry.mk (PyData.keyHash P (st "__loader__")) (sv "__loader__" 168) (Value.builtin "__main__.__loader__#opaque")), (DictEntry.mk (PyData.keyHash P (st "__spec__")) (sv "__spec__" 169) Value.none), (DictEntry.mk (PyData.keyHash P (st "__annotations__")) (sv "__annotations__" 170) (rv 6)), (DictEntry.mk (PyData.keyHash P (st "__builtins__")) (sv "__builtins__" 171) (rv 4)), (DictEntry.mk (PyData.keyHash P (st "__file__")) (sv "__file__" 173) (sv "/claim/cut.py" 172)), (DictEntry.mk (PyData.keyHash P (st "__cached__")) (sv "__cached__" 174) Value.none), (DictEntry.mk (PyData.keyHash P (st "MOST_EXPONENT")) (sv "MOST_EXPONENT" 190) (Value.int 99 189)), (DictEntry.mk (PyData.keyHash P (st "BasicError")) (sv "BasicError" 224) (rv 34)), (DictEntry.mk (PyData.keyHash P (st "figures_of")) (sv "figures_of" 233) (rv 44)), (DictEntry.mk (PyData.keyHash P (st "rounded_by")) (sv "rounded_by" 244) (rv 51)), (DictEntry.mk (PyData.keyHash P (st "made")) (sv "made" 256) (rv 58)), (DictEntry.mk (PyData.keyHash P (st "whole_near")) (sv "whole_near" 266) (rv 65)), (DictEntry.mk (PyData.keyHash P (st "fits")) (sv "fits" 274) (rv 72)), (DictEntry.mk (PyData.keyHash P (st "whole_of")) (sv "whole_of" 283) (rv 79)), (DictEntry.mk (PyData.keyHash P (st "decimal_of")) (sv "decimal_of" 291) (rv 86)), (DictEntry.mk (PyData.keyHash P (st "ONE")) (sv "ONE" 296) (rv 87)), (DictEntry.mk (PyData.keyHash P (st "MOST_POWER")) (sv "MOST_POWER" 298) (Value.int 9999 297)), (DictEntry.mk (PyData.keyHash P (st "d_negated")) (sv "d_negated" 305) (rv 94)), (DictEntry.mk (PyData.keyHash P (st "alike")) (sv "alike" 314) (rv 101)), (DictEntry.mk (PyData.keyHash P (st "d_add")) (sv "d_add" 326) (rv 108)), (DictEntry.mk (PyData.keyHash P (st "d_sub")) (sv "d_sub" 335) (rv 115)), (DictEntry.mk (PyData.keyHash P (st "d_mul")) (sv "d_mul" 344) (rv 122)), (DictEntry.mk (PyData.keyHash P (st "with_rest")) (sv "with_rest" 353) (rv 129)), (DictEntry.mk (PyData.keyHash P (st "d_div")) (sv "d_div" 367) (rv 136)), (DictEntry.mk (PyData.keyHash P (st "d_compare")) (sv "d_compare" 378) (rv 143)), (DictEntry.mk (PyData.keyHash P (st "d_power")) (sv "d_power" 390) (rv 150)), (DictEntry.mk (PyData.keyHash P (st "square_or_end")) (sv "square_or_end" 398) (rv 157)), (DictEntry.mk (PyData.keyHash P (st "is_whole")) (sv "is_whole" 407) (rv 164)), (DictEntry.mk (PyData.keyHash P (st "settled")) (sv "settled" 416) (rv 171)), (DictEntry.mk (PyData.keyHash P (st "whole_reckoned")) (sv "whole_reckoned" 427) (rv 178)), (DictEntry.mk (PyData.keyHash P (st "cut_quotient")) (sv "cut_quotient" 436) (rv 185)), (DictEntry.mk (PyData.keyHash P (st "cut_rest")) (sv "cut_rest" 444) (rv 192)), (DictEntry.mk (PyData.keyHash P (st "exponent_of")) (sv "exponent_of" 451) (rv 199)), (DictEntry.mk (PyData.keyHash P (st "whole_power")) (sv "whole_power" 461) (rv 206)), (DictEntry.mk (PyData.keyHash P (st "raised")) (sv "raised" 472) (rv 213)), (DictEntry.mk (PyData.keyHash P (st "reckoned")) (sv "reckoned" 488) (rv 220)), (DictEntry.mk (PyData.keyHash P (st "negated")) (sv "negated" 497) (rv 227)), (DictEntry.mk (PyData.keyHash P (st "order_of")) (sv "order_of" 505) (rv 234)), (DictEntry.mk (PyData.keyHash P (st "stands_so")) (sv "stands_so" 513) (rv 241)), (DictEntry.mk (PyData.keyHash P (st "inverted")) (sv "inverted" 521) (rv 248)), (DictEntry.mk (PyData.keyHash P (st "logic")) (sv "logic" 533) (rv 255)), (DictEntry.mk (PyData.keyHash P (st "_law_take")) (sv "_law_take" 544) (rv 262)), (DictEntry.mk (PyData.keyHash P (st "_law_all")) (sv "_law_all" 553) (rv 269)), (DictEntry.mk (PyData.keyHash P (st "_law_drawn")) (sv "_law_drawn" 563) (rv 276)), (DictEntry.mk (PyData.keyHash P (st "_law_heard")) (sv "_law_heard" 571) (rv 283)), (DictEntry.mk (PyData.keyHash P (st "_law_kept")) (sv "_law_kept" 580) (rv 290)), (DictEntry.mk (PyData.keyHash P (st "_law_near")) (sv "_law_near" 590) (rv 297)), (DictEntry.mk (PyData.keyHash P (st "_law_wholes")) (sv "_law_wholes" 601) (rv 304)), (DictEntry.mk (PyData.keyHash P (st "_law_bits")) (sv "_law_bits" 616) (rv 311)), (DictEntry.mk (PyData.keyHash P (st "_law_due")) (sv "_law_due" 630) (rv 318)), (DictEntry.mk (PyData.keyHash P (st "_law_value")) (sv "_law_value" 639) (rv 325)), (DictEntry.mk (PyData.keyHash P (st "_law_pair_right")) (sv "_law_pair_right" 654) (rv 332)), (DictEntry.mk (PyData.keyHash P (st "_law_order_right")) (sv "_law_order_right" 660) (rv 337)), (DictEntry.mk (PyData.keyHash P (st "law")) (sv "law" 672) (rv 344))] 57) #[])
noncomputable def hd.o11 (_ : Params) : Obj := (Obj.mk (Value.type "tuple") .none (Data.seq #[] 0) #[])
noncomputable def hd.o12 (_ : Params) : Obj := (Obj.mk Value.none .none (Data.fields #[(iv 3), (iv 0), (rv 21), (iv 9), (iv 0), (rv 43), (iv 15), (iv 0), (rv 50), (iv 25), (iv 0), (rv 57), (iv 40), (iv 0), (rv 64), (iv 46), (iv 0), (rv 71), (iv 48), (iv 0), (rv 78), (iv 55), (iv 0), (rv 85), (iv 62), (iv 0), (rv 93), (iv 64), (iv 0), (rv 100), (iv 67), (iv 0), (rv 107), (iv 70), (iv 0), (rv 114), (iv 72), (iv 0), (rv 121), (iv 74), (iv 0), (rv 128), (iv 76), (iv 0), (rv 135), (iv 84), (iv 0), (rv 142), (iv 87), (iv 0), (rv 149), (iv 101), (iv 0), (rv 156), (iv 104), (iv 0), (rv 163), (iv 108), (iv 0), (rv 170), (iv 110), (iv 0), (rv 177), (iv 114), (iv 0), (rv 184), (iv 119), (iv 0), (rv 191), (iv 121), (iv 0), (rv 198), (iv 127), (iv 0), (rv 205), (iv 133), (iv 0), (rv 212), (iv 138), (iv 0), (rv 219), (iv 153), (iv 0), (rv 226), (iv 155), (iv 0), (rv 233), (iv 161), (iv 0), (rv 240), (iv 167), (iv 0), (rv 247), (iv 169), (iv 0), (rv 254), (iv 179), (iv 0), (rv 261), (iv 186), (iv 0), (rv 268), (iv 191), (iv 0), (rv 275), (iv 199), (iv 0), (rv 282), (iv 204), (iv 0), (rv 289), (iv 211), (iv 0), (rv 296), (iv 219), (iv 0), (rv 303), (iv 228), (iv 0), (rv 310), (iv 235), (iv 0), (rv 317), (iv 250), (iv 0), (rv 324), (iv 255), (iv 0), (rv 331), (iv 276), (iv 0), (rv 336), (iv 286), (iv 0), (rv 343)]) #[])
noncomputable def hd.o13 (_ : Params) : Obj := (Obj.mk (Value.type "code") .none (Data.fields #[(sv "<module>" 182), (sv "<module>" 183), (sv "/claim/cut.py" 184), (iv 1), (iv 0), (iv 0), (iv 0), (iv 0), (rv 11), (Value.bool false), (iv 181), (rv 12), Value.none, Value.none, Value.none, Value.none, (iv 185), (iv 1), (sv "/claim/cut.py" 186)]) #[])
noncomputable def hd.o14 (_ : Params) : Obj := (Obj.mk (Value.type "frame") .none Data.plain #[(.some (rv 13)), (.some (rv 3)), (.some (rv 3)), .none, (.some (sv "__main__" 164)), .none, (.some (rv 0))])
noncomputable def hd.o15 (_ : Params) : Obj := (Obj.mk (Value.type "tuple") .none (Data.seq #[(Value.type "Exception")] 0) #[])
noncomputable def hd.o16 (_ : Params) : Obj := (Obj.mk (Value.type "builtin_function_or_method") .none (Data.fields #[(Value.builtin "type.__prepare__"), (Value.type "type")]) #[])
noncomputable def hd.o17 (P : Params) : Obj := (Obj.mk (Value.type "dict") .none (Data.dict #[(DictEntry.mk (PyData.keyHash P (st "__module__")) (sv "__module__" 198) (sv "basicplus.values" 187)), (DictEntry.mk (PyData.keyHash P (st "__qualname__")) (sv "__qualname__" 200) (sv "BasicError" 199)), (DictEntry.mk (PyData.keyHash P (st "__firstlineno__")) (sv "__firstlineno__" 202) (Value.int 3 201)), (DictEntry.mk (PyData.keyHash P (st "__init__")) (sv "__init__" 213) (rv 31)), (DictEntry.mk (PyData.keyHash P (st "__static_attributes__")) (sv "__static_attributes__" 216) (rv 32)), (DictEntry.mk (PyData.keyHash P (st "__classcell__")) (sv "__classcell__" 217) (rv 18))] 6) #[])
noncomputable def hd.o18 (_ : Params) : Obj := (Obj.mk (Value.type "cell") .none (Data.cell (.some (rv 34))) #[])
noncomputable def hd.o19 (_ : Params) : Obj := (Obj.mk (Value.type "tuple") .none (Data.seq #[] 0) #[])
noncomputable def hd.o20 (_ : Params) : Obj := (Obj.mk Value.none .none (Data.fields #[(iv 5), (iv 4), (rv 30)]) #[])
noncomputable def hd.o21 (_ : Params) : Obj := (Obj.mk (Value.type "code") .none (Data.fields #[(sv "BasicError" 193), (sv "BasicError" 194), (sv "/claim/cut.py" 195), (iv 3), (iv 0), (iv 0), (iv 0), (iv 0), (rv 19), (Value.bool false), (iv 181), (rv 20), Value.none, Value.none, Value.none, Value.none, (iv 196), (iv 3), (sv "/claim/cut.py" 197)]) #[])
noncomputable def hd.o22 (_ : Params) : Obj := (Obj.mk (Value.type "frame") .none Data.plain #[(.some (rv 21)), (.some (rv 3)), (.some (rv 17)), .none, (.some (sv "basicplus.values" 187)), .none, (.some (rv 0))])
noncomputable def hd.o23 (_ : Params) : Obj := (Obj.mk (Value.type "tuple") .none (Data.seq #[(sv "" 203)] 0) #[])
noncomputable def hd.o24 (_ : Params) : Obj := (Obj.mk (Value.type "tuple") .none (Data.seq #[(rv 18)] 0) #[])
noncomputable def hd.o25 (_ : Params) : Obj := (Obj.mk (Value.type "tuple") .none (Data.seq #[(sv "__class__" 207)] 0) #[])
noncomputable def hd.o26 (_ : Params) : Obj := (Obj.mk Value.none .none (Data.fields #[]) #[])
noncomputable def hd.o27 (_ : Params) : Obj := (Obj.mk (Value.type "tuple") .none (Data.seq #[(sv "self" 208), (sv "code" 209), (sv "told" 210)] 0) #[])
noncomputable def hd.o28 (_ : Params) : Obj := (Obj.mk (Value.type "tuple") .none (Data.seq #[] 0) #[])
noncomputable def hd.o29 (_ : Params) : Obj := withDef (x := ctorDef) rfl fun ps b sc => (Obj.mk Value.none .none (Data.func (FuncData.mk (st "__init__") (st "BasicError.__init__") ps (FuncBody.stmts b) sc 0 [] Value.none Value.none Value.none Value.none .none Value.none Value.none 0)) #[])
noncomputable def hd.o30 (_ : Params) : Obj := (Obj.mk (Value.type "code") .none (Data.fields #[(sv "__init__" 204), (sv "BasicError.__init__" 205), (sv "/claim/cut.py" 206), (iv 5), (iv 3), (iv 0), (iv 0), (iv 3), (rv 25), (Value.bool true), (iv 181), (rv 26), Value.none, (rv 27), (rv 28), (rv 29), (iv 211), (iv 5), (sv "/claim/cut.py" 212)]) #[])
noncomputable def hd.o31 (_ : Params) : Obj := withDef (x := ctorDef) rfl fun ps b sc => (Obj.mk (Value.type "function") .none (Data.func (FuncData.mk (st "__init__") (st "BasicError.__init__") ps (FuncBody.stmts b) sc 3 [((st "__class__"), 18)] (rv 23) Value.none Value.none (sv "basicplus.values" 187) .none (rv 30) (rv 24) 0)) #[])
noncomputable def hd.o32 (_ : Params) : Obj := (Obj.mk (Value.type "tuple") .none (Data.seq #[(sv "code" 214), (sv "told" 215)] 0) #[])
noncomputable def hd.o33 (P : Params) : Obj := (Obj.mk (Value.type "dict") .none (Data.dict #[(DictEntry.mk (PyData.keyHash P (st "__module__")) (sv "__module__" 198) (sv "basicplus.values" 187)), (DictEntry.mk (PyData.keyHash P (st "__firstlineno__")) (sv "__firstlineno__" 202) (Value.int 3 201)), (DictEntry.mk (PyData.keyHash P (st "__init__")) (sv "__init__" 213) (rv 31)), (DictEntry.mk (PyData.keyHash P (st "__static_attributes__")) (sv "__static_attributes__" 216) (rv 32)), (DictEntry.mk (PyData.keyHash P (st "__weakref__")) (sv "__weakref__" 219) (rv 35)), (DictEntry.mk (PyData.keyHash P (st "__doc__")) (sv "__doc__" 220) Value.none)] 4) #[])
noncomputable def hd.o34 (_ : Params) : Obj := (Obj.mk (Value.type "type") .none (Data.cls (ClassData.mk (st "BasicError") [(Value.type "Exception")] [(rv 34), (Value.type "Exception"), (Value.type "BaseException"), (Value.type "object")] 33 (st "BasicError") true [] [] false .none false)) #[(.some (rv 15)), .none, (.some (sv "BasicError" 191)), (.some (sv "BasicError" 199)), (.some (Value.builtin "Exception.__new__")), (.some (Value.bool true))])
noncomputable def hd.o35 (_ : Params) : Obj := (Obj.mk (Value.type "getset_descriptor") .none (Data.fields #[(sv "__weakref__" 218), (rv 34), (Value.builtin "ExceptionGroup.__weakref__"), Value.none]) #[])
noncomputable def hd.o36 (_ : Params) : Obj := (Obj.mk (Value.type "super") .none (Data.fields #[(rv 34), (rv 34), (rv 34)]) #[])
noncomputable def hd.o37 (_ : Params) : Obj := (Obj.mk (Value.type "builtin_function_or_method") .none (Data.fields #[(Value.builtin "object.__init_subclass__"), (rv 34)]) #[])
noncomputable def hd.o38 (_ : Params) : Obj := (Obj.mk (Value.type "tuple") .none (Data.seq #[] 0) #[])
noncomputable def hd.o39 (_ : Params) : Obj := (Obj.mk Value.none .none (Data.fields #[]) #[])
noncomputable def hd.o40 (_ : Params) : Obj := (Obj.mk (Value.type "tuple") .none (Data.seq #[(sv "number" 228), (sv "many" 229), (sv "bound" 230)] 0) #[])
noncomputable def hd.o41 (_ : Params) : Obj := (Obj.mk (Value.type "tuple") .none (Data.seq #[] 0) #[])
noncomputable def hd.o42 (_ : Params) : Obj := withDef (x := defNo 3) rfl fun ps b sc => (Obj.mk Value.none .none (Data.func (FuncData.mk (st "figures_of") (st "figures_of") ps (FuncBody.stmts b) sc 0 [] Value.none Value.none Value.none Value.none .none Value.none Value.none 0)) #[])
noncomputable def hd.o43 (_ : Params) : Obj := (Obj.mk (Value.type "code") .none (Data.fields #[(sv "figures_of" 225), (sv "figures_of" 226), (sv "/claim/cut.py" 227), (iv 9), (iv 1), (iv 0), (iv 0), (iv 3), (rv 38), (Value.bool true), (iv 181), (rv 39), Value.none, (rv 40), (rv 41), (rv 42), (iv 231), (iv 9), (sv "/claim/cut.py" 232)]) #[])
noncomputable def hd.o44 (_ : Params) : Obj := withDef (x := defNo 3) rfl fun ps b sc => (Obj.mk (Value.type "function") .none (Data.func (FuncData.mk (st "figures_of") (st "figures_of") ps (FuncBody.stmts b) sc 3 [] Value.none Value.none Value.none (sv "basicplus.values" 187) .none (rv 43) Value.none 0)) #[])
noncomputable def hd.o45 (_ : Params) : Obj := (Obj.mk (Value.type "tuple") .none (Data.seq #[] 0) #[])
noncomputable def hd.o46 (_ : Params) : Obj := (Obj.mk Value.none .none (Data.fields #[]) #[])
noncomputable def hd.o47 (_ : Params) : Obj := (Obj.mk (Value.type "tuple") .none (Data.seq #[(sv "number" 237), (sv "places" 238), (sv "unit" 239), (sv "found" 240), (sv "rest" 241)] 0) #[])
noncomputable def hd.o48 (_ : Params) : Obj := (Obj.mk (Value.type "tuple") .none (Data.seq #[] 0) #[])
noncomputable def hd.o49 (_ : Params) : Obj := withDef (x := defNo 4) rfl fun ps b sc => (Obj.mk Value.none .none (Data.func (FuncData.mk (st "rounded_by") (st "rounded_by") ps (FuncBody.stmts b) sc 0 [] Value.none Value.none Value.none Value.none .none Value.none Value.none 0)) #[])
noncomputable def hd.o50 (_ : Params) : Obj := (Obj.mk (Value.type "code") .none (Data.fields #[(sv "rounded_by" 234), (sv "rounded_by" 235), (sv "/claim/cut.py" 236), (iv 15), (iv 2), (iv 0), (iv 0), (iv 3), (rv 45), (Value.bool true), (iv 181), (rv 46), Value.none, (rv 47), (rv 48), (rv 49), (iv 242), (iv 15), (sv "/claim/cut.py" 243)]) #[])
noncomputable def hd.o51 (_ : Params) : Obj := withDef (x := defNo 4) rfl fun ps b sc => (Obj.mk (Value.type "function") .none (Data.func (FuncData.mk (st "rounded_by") (st "rounded_by") ps (FuncBody.stmts b) sc 3 [] Value.none Value.none Value.none (sv "basicplus.values" 187) .none (rv 50) Value.none 0)) #[])
noncomputable def hd.o52 (_ : Params) : Obj := (Obj.mk (Value.type "tuple") .none (Data.seq #[] 0) #[])
noncomputable def hd.o53 (_ : Params) : Obj := (Obj.mk Value.none .none (Data.fields #[]) #[])
noncomputable def hd.o54 (_ : Params) : Obj := (Obj.mk (Value.type "tuple") .none (Data.seq #[(sv "coefficient" 248), (sv "exponent" 249), (sv "digits" 250), (sv "size" 251), (sv "more" 252), (sv "first" 253)] 0) #[])
noncomputable def hd.o55 (_ : Params) : Obj := (Obj.mk (Value.type "tuple") .none (Data.seq #[] 0) #[])
noncomputable def hd.o56 (_ : Params) : Obj := withDef (x := defNo 5) rfl fun ps b sc => (Obj.mk Value.none .none (Data.func (FuncData.mk (st "made") (st "made") ps (FuncBody.stmts b) sc 0 [] Value.none Value.none Value.none Value.none .none Value.none Value.none 0)) #[])
noncomputable def hd.o57 (_ : Params) : Obj := (Obj.mk (Value.type "code") .none (Data.fields #[(sv "made" 245), (sv "made" 246), (sv "/claim/cut.py" 247), (iv 25), (iv 3), (iv 0), (iv 0), (iv 3), (rv 52), (Value.bool true), (iv 181), (rv 53), Value.none, (rv 54), (rv 55), (rv 56), (iv 254), (iv 25), (sv "/claim/cut.py" 255)]) #[])
noncomputable def hd.o58 (_ : Params) : Obj := withDef (x := defNo 5) rfl fun ps b sc => (Obj.mk (Value.type "function") .none (Data.func (FuncData.mk (st "made") (st "made") ps (FuncBody.stmts b) sc 3 [] Value.none Value.none Value.none (sv "basicplus.values" 187) .none (rv 57) Value.none 0)) #[])
noncomputable def hd.o59 (_ : Params) : Obj := (Obj.mk (Value.type "tuple") .none (Data.seq #[] 0) #[])
noncomputable def hd.o60 (_ : Params) : Obj := (Obj.mk Value.none .none (Data.fields #[]) #[])
noncomputable def hd.o61 (_ : Params) : Obj := (Obj.mk (Value.type "tuple") .none (Data.seq #[(sv "value" 260), (sv "coefficient" 261), (sv "exponent" 262), (sv "size" 263)] 0) #[])
noncomputable def hd.o62 (_ : Params) : Obj := (Obj.mk (Value.type "tuple") .none (Data.seq #[] 0) #[])
noncomputable def hd.o63 (_ : Params) : Obj := withDef (x := defNo 6) rfl fun ps b sc => (Obj.mk Value.none .none (Data.func (FuncData.mk (st "whole_near") (st "whole_near") ps (FuncBody.stmts b) sc 0 [] Value.none Value.none Value.none Value.none .none Value.none Value.none 0)) #[])
noncomputable def hd.o64 (_ : Params) : Obj := (Obj.mk (Value.type "code") .none (Data.fields #[(sv "whole_near" 257), (sv "whole_near" 258), (sv "/claim/cut.py" 259), (iv 40), (iv 1), (iv 0), (iv 0), (iv 3), (rv 59), (Value.bool true), (iv 181), (rv 60), Value.none, (rv 61), (rv 62), (rv 63), (iv 264), (iv 40), (sv "/claim/cut.py" 265)]) #[])
noncomputable def hd.o65 (_ : Params) : Obj := withDef (x := defNo 6) rfl fun ps b sc => (Obj.mk (Value.type "function") .none (Data.func (FuncData.mk (st "whole_near") (st "whole_near") ps (FuncBody.stmts b) sc 3 [] Value.none Value.none Value.none (sv "basicplus.values" 187) .none (rv 64) Value.none 0)) #[])
noncomputable def hd.o66 (_ : Params) : Obj := (Obj.mk (Value.type "tuple") .none (Data.seq #[] 0) #[])
noncomputable def hd.o67 (_ : Params) : Obj := (Obj.mk Value.none .none (Data.fields #[]) #[])
noncomputable def hd.o68 (_ : Params) : Obj := (Obj.mk (Value.type "tuple") .none (Data.seq #[(sv "number" 270), (sv "bits" 271)] 0) #[])
noncomputable def hd.o69 (_ : Params) : Obj := (Obj.mk (Value.type "tuple") .none (Data.seq #[] 0) #[])
noncomputable def hd.o70 (_ : Params) : Obj := withDef (x := defNo 7) rfl fun ps b sc => (Obj.mk Value.none .none (Data.func (FuncData.mk (st "fits") (st "fits") ps (FuncBody.stmts b) sc 0 [] Value.none Value.none Value.none Value.none .none Value.none Value.none 0)) #[])
noncomputable def hd.o71 (_ : Params) : Obj := (Obj.mk (Value.type "code") .none (Data.fields #[(sv "fits" 267), (sv "fits" 268), (sv "/claim/cut.py" 269), (iv 46), (iv 2), (iv 0), (iv 0), (iv 3), (rv 66), (Value.bool true), (iv 181), (rv 67), Value.none, (rv 68), (rv 69), (rv 70), (iv 272), (iv 46), (sv "/claim/cut.py" 273)]) #[])
noncomputable def hd.o72 (_ : Params) : Obj := withDef (x := defNo 7) rfl fun ps b sc => (Obj.mk (Value.type "function") .none (Data.func (FuncData.mk (st "fits") (st "fits") ps (FuncBody.stmts b) sc 3 [] Value.none Value.none Value.none (sv "basicplus.values" 187) .none (rv 71) Value.none 0)) #[])
noncomputable def hd.o73 (_ : Params) : Obj := (Obj.mk (Value.type "tuple") .none (Data.seq #[] 0) #[])
noncomputable def hd.o74 (_ : Params) : Obj := (Obj.mk Value.none .none (Data.fields #[]) #[])
noncomputable def hd.o75 (_ : Params) : Obj := (Obj.mk (Value.type "tuple") .none (Data.seq #[(sv "value" 278), (sv "bits" 279), (sv "number" 280)] 0) #[])
noncomputable def hd.o76 (_ : Params) : Obj := (Obj.mk (Value.type "tuple") .none (Data.seq #[] 0) #[])
noncomputable def hd.o77 (_ : Params) : Obj := withDef (x := defNo 8) rfl fun ps b sc => (Obj.mk Value.none .none (Data.func (FuncData.mk (st "whole_of") (st "whole_of") ps (FuncBody.stmts b) sc 0 [] Value.none Value.none Value.none Value.none .none Value.none Value.none 0)) #[])
noncomputable def hd.o78 (_ : Params) : Obj := (Obj.mk (Value.type "code") .none (Data.fields #[(sv "whole_of" 275), (sv "whole_of" 276), (sv "/claim/cut.py" 277), (iv 48), (iv 2), (iv 0), (iv 0), (iv 3), (rv 73), (Value.bool true), (iv 181), (rv 74), Value.none, (rv 75), (rv 76), (rv 77), (iv 281), (iv 48), (sv "/claim/cut.py" 282)]) #[])
noncomputable def hd.o79 (_ : Params) : Obj := withDef (x := defNo 8) rfl fun ps b sc => (Obj.mk (Value.type "function") .none (Data.func (FuncData.mk (st "whole_of") (st "whole_of") ps (FuncBody.stmts b) sc 3 [] Value.none Value.none Value.none (sv "basicplus.values" 187) .none (rv 78) Value.none 0)) #[])
noncomputable def hd.o80 (_ : Params) : Obj := (Obj.mk (Value.type "tuple") .none (Data.seq #[] 0) #[])
noncomputable def hd.o81 (_ : Params) : Obj := (Obj.mk Value.none .none (Data.fields #[]) #[])
noncomputable def hd.o82 (_ : Params) : Obj := (Obj.mk (Value.type "tuple") .none (Data.seq #[(sv "value" 287), (sv "digits" 288)] 0) #[])
noncomputable def hd.o83 (_ : Params) : Obj := (Obj.mk (Value.type "tuple") .none (Data.seq #[] 0) #[])
noncomputable def hd.o84 (_ : Params) : Obj := withDef (x := defNo 9) rfl fun ps b sc => (Obj.mk Value.none .none (Data.func (FuncData.mk (st "decimal_of") (st "decimal_of") ps (FuncBody.stmts b) sc 0 [] Value.none Value.none Value.none Value.none .none Value.none Value.none 0)) #[])
noncomputable def hd.o85 (_ : Params) : Obj := (Obj.mk (Value.type "code") .none (Data.fields #[(sv "decimal_of" 284), (sv "decimal_of" 285), (sv "/claim/cut.py" 286), (iv 55), (iv 2), (iv 0), (iv 0), (iv 3), (rv 80), (Value.bool true), (iv 181), (rv 81), Value.none, (rv 82), (rv 83), (rv 84), (iv 289), (iv 55), (sv "/claim/cut.py" 290)]) #[])
noncomputable def hd.o86 (_ : Params) : Obj := withDef (x := defNo 9) rfl fun ps b sc => (Obj.mk (Value.type "function") .none (Data.func (FuncData.mk (st "decimal_of") (st "decimal_of") ps (FuncBody.stmts b) sc 3 [] Value.none Value.none Value.none (sv "basicplus.values" 187) .none (rv 85) Value.none 0)) #[])
noncomputable def hd.o87 (_ : Params) : Obj := (Obj.mk (Value.type "tuple") .none (Data.seq #[(Value.int 1 294), (Value.int 0 295)] 0) #[])
noncomputable def hd.o88 (_ : Params) : Obj := (Obj.mk (Value.type "tuple") .none (Data.seq #[] 0) #[])
noncomputable def hd.o89 (_ : Params) : Obj := (Obj.mk Value.none .none (Data.fields #[]) #[])
noncomputable def hd.o90 (_ : Params) : Obj := (Obj.mk (Value.type "tuple") .none (Data.seq #[(sv "a" 302)] 0) #[])
noncomputable def hd.o91 (_ : Params) : Obj := (Obj.mk (Value.type "tuple") .none (Data.seq #[] 0) #[])
noncomputable def hd.o92 (_ : Params) : Obj := withDef (x := defNo 13) rfl fun ps b sc => (Obj.mk Value.none .none (Data.func (FuncData.mk (st "d_negated") (st "d_negated") ps (FuncBody.stmts b) sc 0 [] Value.none Value.none Value.none Value.none .none Value.none Value.none 0)) #[])
noncomputable def hd.o93 (_ : Params) : Obj := (Obj.mk (Value.type "code") .none (Data.fields #[(sv "d_negated" 299), (sv "d_negated" 300), (sv "/claim/cut.py" 301), (iv 62), (iv 1), (iv 0), (iv 0), (iv 3), (rv 88), (Value.bool true), (iv 181), (rv 89), Value.none, (rv 90), (rv 91), (rv 92), (iv 303), (iv 62), (sv "/claim/cut.py" 304)]) #[])
noncomputable def hd.o94 (_ : Params) : Obj := withDef (x := defNo 13) rfl fun ps b sc => (Obj.mk (Value.type "function") .none (Data.func (FuncData.mk (st "d_negated") (st "d_negated") ps (FuncBody.stmts b) sc 3 [] Value.none Value.none Value.none (sv "basicplus.decimals" 292) .none (rv 93) Value.none 0)) #[])
noncomputable def hd.o95 (_ : Params) : Obj := (Obj.mk (Value.type "tuple") .none (Data.seq #[] 0) #[])
noncomputable def hd.o96 (_ : Params) : Obj := (Obj.mk Value.none .none (Data.fields #[]) #[])
noncomputable def hd.o97 (_ : Params) : Obj := (Obj.mk (Value.type "tuple") .none (Data.seq #[(sv "a" 309), (sv "b" 310), (sv "least" 311)] 0) #[])
noncomputable def hd.o98 (_ : Params) : Obj := (Obj.mk (Value.type "tuple") .none (Data.seq #[] 0) #[])
noncomputable def hd.o99 (_ : Params) : Obj := withDef (x := defNo 14) rfl fun ps b sc => (Obj.mk Value.none .none (Data.func (FuncData.mk (st "alike") (st "alike") ps (FuncBody.stmts b) sc 0 [] Value.none Value.none Value.none Value.none .none Value.none Value.none 0)) #[])
noncomputable def hd.o100 (_ : Params) : Obj := (Obj.mk (Value.type "code") .none (Data.fields #[(sv "alike" 306), (sv "alike" 307), (sv "/claim/cut.py" 308), (iv 64), (iv 2), (iv 0), (iv 0), (iv 3), (rv 95), (Value.bool true), (iv 181), (rv 96), Value.none, (rv 97), (rv 98), (rv 99), (iv 312), (iv 64), (sv "/claim/cut.py" 313)]) #[])
noncomputable def hd.o101 (_ : Params) : Obj := withDef (x := defNo 14) rfl fun ps b sc => (Obj.mk (Value.type "function") .none (Data.func (FuncData.mk (st "alike") (st "alike") ps (FuncBody.stmts b) sc 3 [] Value.none Value.none Value.none (sv "basicplus.decimals" 292) .none (rv 100) Value.none 0)) #[])
noncomputable def hd.o102 (_ : Params) : Obj := (Obj.mk (Value.type "tuple") .none (Data.seq #[] 0) #[])
noncomputable def hd.o103 (_ : Params) : Obj := (Obj.mk Value.none .none (Data.fields #[]) #[])
noncomputable def hd.o104 (_ : Params) : Obj := (Obj.mk (Value.type "tuple") .none (Data.seq #[(sv "a" 318), (sv "b" 319), (sv "digits" 320), (sv "one" 321), (sv "other" 322), (sv "exponent" 323)] 0) #[])
noncomputable def hd.o105 (_ : Params) : Obj := (Obj.mk (Value.type "tuple") .none (Data.seq #[] 0) #[])
noncomputable def hd.o106 (_ : Params) : Obj := withDef (x := defNo 15) rfl fun ps b sc => (Obj.mk Value.none .none (Data.func (FuncData.mk (st "d_add") (st "d_add") ps (FuncBody.stmts b) sc 0 [] Value.none Value.none Value.none Value.none .none Value.none Value.none 0)) #[])
noncomputable def hd.o107 (_ : Params) : Obj := (Obj.mk (Value.type "code") .none (Data.fields #[(sv "d_add" 315), (sv "d_add" 316), (sv "/claim/cut.py" 317), (iv 67), (iv 3), (iv 0), (iv 0), (iv 3), (rv 102), (Value.bool true), (iv 181), (rv 103), Value.none, (rv 104), (rv 105), (rv 106), (iv 324), (iv 67), (sv "/claim/cut.py" 325)]) #[])
noncomputable def hd.o108 (_ : Params) : Obj := withDef (x := defNo 15) rfl fun ps b sc => (Obj.mk (Value.type "function") .none (Data.func (FuncData.mk (st "d_add") (st "d_add") ps (FuncBody.stmts b) sc 3 [] Value.none Value.none Value.none (sv "basicplus.decimals" 292) .none (rv 107) Value.none 0)) #[])
noncomputable def hd.o109 (_ : Params) : Obj := (Obj.mk (Value.type "tuple") .none (Data.seq #[] 0) #[])
noncomputable def hd.o110 (_ : Params) : Obj := (Obj.mk Value.none .none (Data.fields #[]) #[])
noncomputable def hd.o111 (_ : Params) : Obj := (Obj.mk (Value.type "tuple") .none (Data.seq #[(sv "a" 330), (sv "b" 331), (sv "digits" 332)] 0) #[])
noncomputable def hd.o112 (_ : Params) : Obj := (Obj.mk (Value.type "tuple") .none (Data.seq #[] 0) #[])
noncomputable def hd.o113 (_ : Params) : Obj := withDef (x := defNo 16) rfl fun ps b sc => (Obj.mk Value.none .none (Data.func (FuncData.mk (st "d_sub") (st "d_sub") ps (FuncBody.stmts b) sc 0 [] Value.none Value.none Value.none Value.none .none Value.none Value.none 0)) #[])
noncomputable def hd.o114 (_ : Params) : Obj := (Obj.mk (Value.type "code") .none (Data.fields #[(sv "d_sub" 327), (sv "d_sub" 328), (sv "/claim/cut.py" 329), (iv 70), (iv 3), (iv 0), (iv 0), (iv 3), (rv 109), (Value.bool true), (iv 181), (rv 110), Value.none, (rv 111), (rv 112), (rv 113), (iv 333), (iv 70), (sv "/claim/cut.py" 334)]) #[])
noncomputable def hd.o115 (_ : Params) : Obj := withDef (x := defNo 16) rfl fun ps b sc => (Obj.mk (Value.type "function") .none (Data.func (FuncData.mk (st "d_sub") (st "d_sub") ps (FuncBody.stmts b) sc 3 [] Value.none Value.none Value.none (sv "basicplus.decimals" 292) .none (rv 114) Value.none 0)) #[])
noncomputable def hd.o116 (_ : Params) : Obj := (Obj.mk (Value.type "tuple") .none (Data.seq #[] 0) #[])
noncomputable def hd.o117 (_ : Params) : Obj := (Obj.mk Value.none .none (Data.fields #[]) #[])
noncomputable def hd.o118 (_ : Params) : Obj := (Obj.mk (Value.type "tuple") .none (Data.seq #[(sv "a" 339), (sv "b" 340), (sv "digits" 341)] 0) #[])
noncomputable def hd.o119 (_ : Params) : Obj := (Obj.mk (Value.type "tuple") .none (Data.seq #[] 0) #[])
noncomputable def hd.o120 (_ : Params) : Obj := withDef (x := defNo 17) rfl fun ps b sc => (Obj.mk Value.none .none (Data.func (FuncData.mk (st "d_mul") (st "d_mul") ps (FuncBody.stmts b) sc 0 [] Value.none Value.none Value.none Value.none .none Value.none Value.none 0)) #[])
noncomputable def hd.o121 (_ : Params) : Obj := (Obj.mk (Value.type "code") .none (Data.fields #[(sv "d_mul" 336), (sv "d_mul" 337), (sv "/claim/cut.py" 338), (iv 72), (iv 3), (iv 0), (iv 0), (iv 3), (rv 116), (Value.bool true), (iv 181), (rv 117), Value.none, (rv 118), (rv 119), (rv 120), (iv 342), (iv 72), (sv "/claim/cut.py" 343)]) #[])
noncomputable def hd.o122 (_ : Params) : Obj := withDef (x := defNo 17) rfl fun ps b sc => (Obj.mk (Value.type "function") .none (Data.func (FuncData.mk (st "d_mul") (st "d_mul") ps (FuncBody.stmts b) sc 3 [] Value.none Value.none Value.none (sv "basicplus.decimals" 292) .none (rv 121) Value.none 0)) #[])
noncomputable def hd.o123 (_ : Params) : Obj := (Obj.mk (Value.type "tuple") .none (Data.seq #[] 0) #[])
noncomputable def hd.o124 (_ : Params) : Obj := (Obj.mk Value.none .none (Data.fields #[]) #[])
noncomputable def hd.o125 (_ : Params) : Obj := (Obj.mk (Value.type "tuple") .none (Data.seq #[(sv "whole" 348), (sv "rest" 349), (sv "exponent" 350)] 0) #[])
noncomputable def hd.o126 (_ : Params) : Obj := (Obj.mk (Value.type "tuple") .none (Data.seq #[] 0) #[])
noncomputable def hd.o127 (_ : Params) : Obj := withDef (x := defNo 18) rfl fun ps b sc => (Obj.mk Value.none .none (Data.func (FuncData.mk (st "with_rest") (st "with_rest") ps (FuncBody.stmts b) sc 0 [] Value.none Value.none Value.none Value.none .none Value.none Value.none 0)) #[])
noncomputable def hd.o128 (_ : Params) : Obj := (Obj.mk (Value.type "code") .none (Data.fields #[(sv "with_rest" 345), (sv "with_rest" 346), (sv "/claim/cut.py" 347), (iv 74), (iv 3), (iv 0), (iv 0), (iv 3), (rv 123), (Value.bool true), (iv 181), (rv 124), Value.none, (rv 125), (rv 126), (rv 127), (iv 351), (iv 74), (sv "/claim/cut.py" 352)]) #[])
noncomputable def hd.o129 (_ : Params) : Obj := withDef (x := defNo 18) rfl fun ps b sc => (Obj.mk (Value.type "function") .none (Data.func (FuncData.mk (st "with_rest") (st "with_rest") ps (FuncBody.stmts b) sc 3 [] Value.none Value.none Value.none (sv "basicplus.decimals" 292) .none (rv 128) Value.none 0)) #[])
noncomputable def hd.o130 (_ : Params) : Obj := (Obj.mk (Value.type "tuple") .none (Data.seq #[] 0) #[])
noncomputable def hd.o131 (_ : Params) : Obj := (Obj.mk Value.none .none (Data.fields #[]) #[])
noncomputable def hd.o132 (_ : Params) : Obj := (Obj.mk (Value.type "tuple") .none (Data.seq #[(sv "a" 357), (sv "b" 358), (sv "digits" 359), (sv "size" 360), (sv "below" 361), (sv "places" 362), (sv "whole" 363), (sv "exponent" 364)] 0) #[])
noncomputable def hd.o133 (_ : Params) : Obj := (Obj.mk (Value.type "tuple") .none (Data.seq #[] 0) #[])
noncomputable def hd.o134 (_ : Params) : Obj := withDef (x := defNo 19) rfl fun ps b sc => (Obj.mk Value.none .none (Data.func (FuncData.mk (st "d_div") (st "d_div") ps (FuncBody.stmts b) sc 0 [] Value.none Value.none Value.none Value.none .none Value.none Value.none 0)) #[])
noncomputable def hd.o135 (_ : Params) : Obj := (Obj.mk (Value.type "code") .none (Data.fields #[(sv "d_div" 354), (sv "d_div" 355), (sv "/claim/cut.py" 356), (iv 76), (iv 3), (iv 0), (iv 0), (iv 3), (rv 130), (Value.bool true), (iv 181), (rv 131), Value.none, (rv 132), (rv 133), (rv 134), (iv 365), (iv 76), (sv "/claim/cut.py" 366)]) #[])
noncomputable def hd.o136 (_ : Params) : Obj := withDef (x := defNo 19) rfl fun ps b sc => (Obj.mk (Value.type "function") .none (Data.func (FuncData.mk (st "d_div") (st "d_div") ps (FuncBody.stmts b) sc 3 [] Value.none Value.none Value.none (sv "basicplus.decimals" 292) .none (rv 135) Value.none 0)) #[])
noncomputable def hd.o137 (_ : Params) : Obj := (Obj.mk (Value.type "tuple") .none (Data.seq #[] 0) #[])
noncomputable def hd.o138 (_ : Params) : Obj := (Obj.mk Value.none .none (Data.fields #[]) #[])
noncomputable def hd.o139 (_ : Params) : Obj := (Obj.mk (Value.type "tuple") .none (Data.seq #[(sv "a" 371), (sv "b" 372), (sv "one" 373), (sv "other" 374), (sv "exponent" 375)] 0) #[])
noncomputable def hd.o140 (_ : Params) : Obj := (Obj.mk (Value.type "tuple") .none (Data.seq #[] 0) #[])
noncomputable def hd.o141 (_ : Params) : Obj := withDef (x := defNo 20) rfl fun ps b sc => (Obj.mk Value.none .none (Data.func (FuncData.mk (st "d_compare") (st "d_compare") ps (FuncBody.stmts b) sc 0 [] Value.none Value.none Value.none Value.none .none Value.none Value.none 0)) #[])
noncomputable def hd.o142 (_ : Params) : Obj := (Obj.mk (Value.type "code") .none (Data.fields #[(sv "d_compare" 368), (sv "d_compare" 369), (sv "/claim/cut.py" 370), (iv 84), (iv 2), (iv 0), (iv 0), (iv 3), (rv 137), (Value.bool true), (iv 181), (rv 138), Value.none, (rv 139), (rv 140), (rv 141), (iv 376), (iv 84), (sv "/claim/cut.py" 377)]) #[])
noncomputable def hd.o143 (_ : Params) : Obj := withDef (x := defNo 20) rfl fun ps b sc => (Obj.mk (Value.type "function") .none (Data.func (FuncData.mk (st "d_compare") (st "d_compare") ps (FuncBody.stmts b) sc 3 [] Value.none Value.none Value.none (sv "basicplus.decimals" 292) .none (rv 142) Value.none 0)) #[])
noncomputable def hd.o144 (_ : Params) : Obj := (Obj.mk (Value.type "tuple") .none (Data.seq #[] 0) #[])
noncomputable def hd.o145 (_ : Params) : Obj := (Obj.mk Value.none .none (Data.fields #[]) #[])
noncomputable def hd.o146 (_ : Params) : Obj := (Obj.mk (Value.type "tuple") .none (Data.seq #[(sv "a" 382), (sv "n" 383), (sv "digits" 384), (sv "work" 385), (sv "found" 386), (sv "left" 387)] 0) #[])
noncomputable def hd.o147 (_ : Params) : Obj := (Obj.mk (Value.type "tuple") .none (Data.seq #[] 0) #[])
noncomputable def hd.o148 (_ : Params) : Obj := withDef (x := defNo 21) rfl fun ps b sc => (Obj.mk Value.none .none (Data.func (FuncData.mk (st "d_power") (st "d_power") ps (FuncBody.stmts b) sc 0 [] Value.none Value.none Value.none Value.none .none Value.none Value.none 0)) #[])
noncomputable def hd.o149 (_ : Params) : Obj := (Obj.mk (Value.type "code") .none (Data.fields #[(sv "d_power" 379), (sv "d_power" 380), (sv "/claim/cut.py" 381), (iv 87), (iv 3), (iv 0), (iv 0), (iv 3), (rv 144), (Value.bool true), (iv 181), (rv 145), Value.none, (rv 146), (rv 147), (rv 148), (iv 388), (iv 87), (sv "/claim/cut.py" 389)]) #[])
noncomputable def hd.o150 (_ : Params) : Obj := withDef (x := defNo 21) rfl fun ps b sc => (Obj.mk (Value.type "function") .none (Data.func (FuncData.mk (st "d_power") (st "d_power") ps (FuncBody.stmts b) sc 3 [] Value.none Value.none Value.none (sv "basicplus.decimals" 292) .none (rv 149) Value.none 0)) #[])
noncomputable def hd.o151 (_ : Params) : Obj := (Obj.mk (Value.type "tuple") .none (Data.seq #[] 0) #[])
noncomputable def hd.o152 (_ : Params) : Obj := (Obj.mk Value.none .none (Data.fields #[]) #[])
noncomputable def hd.o153 (_ : Params) : Obj := (Obj.mk (Value.type "tuple") .none (Data.seq #[(sv "a" 394), (sv "work" 395)] 0) #[])
noncomputable def hd.o154 (_ : Params) : Obj := (Obj.mk (Value.type "tuple") .none (Data.seq #[] 0) #[])
noncomputable def hd.o155 (_ : Params) : Obj := withDef (x := defNo 22) rfl fun ps b sc => (Obj.mk Value.none .none (Data.func (FuncData.mk (st "square_or_end") (st "square_or_end") ps (FuncBody.stmts b) sc 0 [] Value.none Value.none Value.none Value.none .none Value.none Value.none 0)) #[])
noncomputable def hd.o156 (_ : Params) : Obj := (Obj.mk (Value.type "code") .none (Data.fields #[(sv "square_or_end" 391), (sv "square_or_end" 392), (sv "/claim/cut.py" 393), (iv 101), (iv 2), (iv 0), (iv 0), (iv 3), (rv 151), (Value.bool true), (iv 181), (rv 152), Value.none, (rv 153), (rv 154), (rv 155), (iv 396), (iv 101), (sv "/claim/cut.py" 397)]) #[])
noncomputable def hd.o157 (_ : Params) : Obj := withDef (x := defNo 22) rfl fun ps b sc => (Obj.mk (Value.type "function") .none (Data.func (FuncData.mk (st "square_or_end") (st "square_or_end") ps (FuncBody.stmts b) sc 3 [] Value.none Value.none Value.none (sv "basicplus.decimals" 292) .none (rv 156) Value.none 0)) #[])
noncomputable def hd.o158 (_ : Params) : Obj := (Obj.mk (Value.type "tuple") .none (Data.seq #[] 0) #[])
noncomputable def hd.o159 (_ : Params) : Obj := (Obj.mk Value.none .none (Data.fields #[]) #[])
noncomputable def hd.o160 (_ : Params) : Obj := (Obj.mk (Value.type "tuple") .none (Data.seq #[(sv "value" 404)] 0) #[])
noncomputable def hd.o161 (_ : Params) : Obj := (Obj.mk (Value.type "tuple") .none (Data.seq #[] 0) #[])
noncomputable def hd.o162 (_ : Params) : Obj := withDef (x := defNo 24) rfl fun ps b sc => (Obj.mk Value.none .none (Data.func (FuncData.mk (st "is_whole") (st "is_whole") ps (FuncBody.stmts b) sc 0 [] Value.none Value.none Value.none Value.none .none Value.none Value.none 0)) #[])
noncomputable def hd.o163 (_ : Params) : Obj := (Obj.mk (Value.type "code") .none (Data.fields #[(sv "is_whole" 401), (sv "is_whole" 402), (sv "/claim/cut.py" 403), (iv 104), (iv 1), (iv 0), (iv 0), (iv 3), (rv 158), (Value.bool true), (iv 181), (rv 159), Value.none, (rv 160), (rv 161), (rv 162), (iv 405), (iv 104), (sv "/claim/cut.py" 406)]) #[])
noncomputable def hd.o164 (_ : Params) : Obj := withDef (x := defNo 24) rfl fun ps b sc => (Obj.mk (Value.type "function") .none (Data.func (FuncData.mk (st "is_whole") (st "is_whole") ps (FuncBody.stmts b) sc 3 [] Value.none Value.none Value.none (sv "basicplus.arith" 399) .none (rv 163) Value.none 0)) #[])
noncomputable def hd.o165 (_ : Params) : Obj := (Obj.mk (Value.type "tuple") .none (Data.seq #[] 0) #[])
noncomputable def hd.o166 (_ : Params) : Obj := (Obj.mk Value.none .none (Data.fields #[]) #[])
noncomputable def hd.o167 (_ : Params) : Obj := (Obj.mk (Value.type "tuple") .none (Data.seq #[(sv "number" 411), (sv "bits" 412), (sv "digits" 413)] 0) #[])
noncomputable def hd.o168 (_ : Params) : Obj := (Obj.mk (Value.type "tuple") .none (Data.seq #[] 0) #[])
noncomputable def hd.o169 (_ : Params) : Obj := withDef (x := defNo 25) rfl fun ps b sc => (Obj.mk Value.none .none (Data.func (FuncData.mk (st "settled") (st "settled") ps (FuncBody.stmts b) sc 0 [] Value.none Value.none Value.none Value.none .none Value.none Value.none 0)) #[])
noncomputable def hd.o170 (_ : Params) : Obj := (Obj.mk (Value.type "code") .none (Data.fields #[(sv "settled" 408), (sv "settled" 409), (sv "/claim/cut.py" 410), (iv 108), (iv 3), (iv 0), (iv 0), (iv 3), (rv 165), (Value.bool true), (iv 181), (rv 166), Value.none, (rv 167), (rv 168), (rv 169), (iv 414), (iv 108), (sv "/claim/cut.py" 415)]) #[])
noncomputable def hd.o171 (_ : Params) : Obj := withDef (x := defNo 25) rfl fun ps b sc => (Obj.mk (Value.type "function") .none (Data.func (FuncData.mk (st "settled") (st "settled") ps (FuncBody.stmts b) sc 3 [] Value.none Value.none Value.none (sv "basicplus.arith" 399) .none (rv 170) Value.none 0)) #[])
noncomputable def hd.o172 (_ : Params) : Obj := (Obj.mk (Value.type "tuple") .none (Data.seq #[] 0) #[])
noncomputable def hd.o173 (_ : Params) : Obj := (Obj.mk Value.none .none (Data.fields #[]) #[])
noncomputable def hd.o174 (_ : Params) : Obj := (Obj.mk (Value.type "tuple") .none (Data.seq #[(sv "op" 420), (sv "a" 421), (sv "b" 422), (sv "bits" 423), (sv "digits" 424)] 0) #[])
noncomputable def hd.o175 (_ : Params) : Obj := (Obj.mk (Value.type "tuple") .none (Data.seq #[] 0) #[])
noncomputable def hd.o176 (_ : Params) : Obj := withDef (x := defNo 26) rfl fun ps b sc => (Obj.mk Value.none .none (Data.func (FuncData.mk (st "whole_reckoned") (st "whole_reckoned") ps (FuncBody.stmts b) sc 0 [] Value.none Value.none Value.none Value.none .none Value.none Value.none 0)) #[])
noncomputable def hd.o177 (_ : Params) : Obj := (Obj.mk (Value.type "code") .none (Data.fields #[(sv "whole_reckoned" 417), (sv "whole_reckoned" 418), (sv "/claim/cut.py" 419), (iv 110), (iv 5), (iv 0), (iv 0), (iv 3), (rv 172), (Value.bool true), (iv 181), (rv 173), Value.none, (rv 174), (rv 175), (rv 176), (iv 425), (iv 110), (sv "/claim/cut.py" 426)]) #[])
noncomputable def hd.o178 (_ : Params) : Obj := withDef (x := defNo 26) rfl fun ps b sc => (Obj.mk (Value.type "function") .none (Data.func (FuncData.mk (st "whole_reckoned") (st "whole_reckoned") ps (FuncBody.stmts b) sc 3 [] Value.none Value.none Value.none (sv "basicplus.arith" 399) .none (rv 177) Value.none 0)) #[])
noncomputable def hd.o179 (_ : Params) : Obj := (Obj.mk (Value.type "tuple") .none (Data.seq #[] 0) #[])
noncomputable def hd.o180 (_ : Params) : Obj := (Obj.mk Value.none .none (Data.fields #[]) #[])
noncomputable def hd.o181 (_ : Params) : Obj := (Obj.mk (Value.type "tuple") .none (Data.seq #[(sv "a" 431), (sv "b" 432), (sv "found" 433)] 0) #[])
noncomputable def hd.o182 (_ : Params) : Obj := (Obj.mk (Value.type "tuple") .none (Data.seq #[] 0) #[])
noncomputable def hd.o183 (_ : Params) : Obj := withDef (x := defNo 27) rfl fun ps b sc => (Obj.mk Value.none .none (Data.func (FuncData.mk (st "cut_quotient") (st "cut_quotient") ps (FuncBody.stmts b) sc 0 [] Value.none Value.none Value.none Value.none .none Value.none Value.none 0)) #[])
noncomputable def hd.o184 (_ : Params) : Obj := (Obj.mk (Value.type "code") .none (Data.fields #[(sv "cut_quotient" 428), (sv "cut_quotient" 429), (sv "/claim/cut.py" 430), (iv 114), (iv 2), (iv 0), (iv 0), (iv 3), (rv 179), (Value.bool true), (iv 181), (rv 180), Value.none, (rv 181), (rv 182), (rv 183), (iv 434), (iv 114), (sv "/claim/cut.py" 435)]) #[])
noncomputable def hd.o185 (_ : Params) : Obj := withDef (x := defNo 27) rfl fun ps b sc => (Obj.mk (Value.type "function") .none (Data.func (FuncData.mk (st "cut_quotient") (st "cut_quotient") ps (FuncBody.stmts b) sc 3 [] Value.none Value.none Value.none (sv "basicplus.arith" 399) .none (rv 184) Value.none 0)) #[])
noncomputable def hd.o186 (_ : Params) : Obj := (Obj.mk (Value.type "tuple") .none (Data.seq #[] 0) #[])
noncomputable def hd.o187 (_ : Params) : Obj := (Obj.mk Value.none .none (Data.fields #[]) #[])
noncomputable def hd.o188 (_ : Params) : Obj := (Obj.mk (Value.type "tuple") .none (Data.seq #[(sv "a" 440), (sv "b" 441)] 0) #[])
noncomputable def hd.o189 (_ : Params) : Obj := (Obj.mk (Value.type "tuple") .none (Data.seq #[] 0) #[])
noncomputable def hd.o190 (_ : Params) : Obj := withDef (x := defNo 28) rfl fun ps b sc => (Obj.mk Value.none .none (Data.func (FuncData.mk (st "cut_rest") (st "cut_rest") ps (FuncBody.stmts b) sc 0 [] Value.none Value.none Value.none Value.none .none Value.none Value.none 0)) #[])
noncomputable def hd.o191 (_ : Params) : Obj := (Obj.mk (Value.type "code") .none (Data.fields #[(sv "cut_rest" 437), (sv "cut_rest" 438), (sv "/claim/cut.py" 439), (iv 119), (iv 2), (iv 0), (iv 0), (iv 3), (rv 186), (Value.bool true), (iv 181), (rv 187), Value.none, (rv 188), (rv 189), (rv 190), (iv 442), (iv 119), (sv "/claim/cut.py" 443)]) #[])
noncomputable def hd.o192 (_ : Params) : Obj := withDef (x := defNo 28) rfl fun ps b sc => (Obj.mk (Value.type "function") .none (Data.func (FuncData.mk (st "cut_rest") (st "cut_rest") ps (FuncBody.stmts b) sc 3 [] Value.none Value.none Value.none (sv "basicplus.arith" 399) .none (rv 191) Value.none 0)) #[])
noncomputable def hd.o193 (_ : Params) : Obj := (Obj.mk (Value.type "tuple") .none (Data.seq #[] 0) #[])
noncomputable def hd.o194 (_ : Params) : Obj := (Obj.mk Value.none .none (Data.fields #[]) #[])
noncomputable def hd.o195 (_ : Params) : Obj := (Obj.mk (Value.type "tuple") .none (Data.seq #[(sv "value" 448)] 0) #[])
noncomputable def hd.o196 (_ : Params) : Obj := (Obj.mk (Value.type "tuple") .none (Data.seq #[] 0) #[])
noncomputable def hd.o197 (_ : Params) : Obj := withDef (x := defNo 29) rfl fun ps b sc => (Obj.mk Value.none .none (Data.func (FuncData.mk (st "exponent_of") (st "exponent_of") ps (FuncBody.stmts b) sc 0 [] Value.none Value.none Value.none Value.none .none Value.none Value.none 0)) #[])
noncomputable def hd.o198 (_ : Params) : Obj := (Obj.mk (Value.type "code") .none (Data.fields #[(sv "exponent_of" 445), (sv "exponent_of" 446), (sv "/claim/cut.py" 447), (iv 121), (iv 1), (iv 0), (iv 0), (iv 3), (rv 193), (Value.bool true), (iv 181), (rv 194), Value.none, (rv 195), (rv 196), (rv 197), (iv 449), (iv 121), (sv "/claim/cut.py" 450)]) #[])
noncomputable def hd.o199 (_ : Params) : Obj := withDef (x := defNo 29) rfl fun ps b sc => (Obj.mk (Value.type "function") .none (Data.func (FuncData.mk (st "exponent_of") (st "exponent_of") ps (FuncBody.stmts b) sc 3 [] Value.none Value.none Value.none (sv "basicplus.arith" 399) .none (rv 198) Value.none 0)) #[])
noncomputable def hd.o200 (_ : Params) : Obj := (Obj.mk (Value.type "tuple") .none (Data.seq #[] 0) #[])
noncomputable def hd.o201 (_ : Params) : Obj := (Obj.mk Value.none .none (Data.fields #[]) #[])
noncomputable def hd.o202 (_ : Params) : Obj := (Obj.mk (Value.type "tuple") .none (Data.seq #[(sv "a" 455), (sv "n" 456), (sv "bits" 457), (sv "digits" 458)] 0) #[])
noncomputable def hd.o203 (_ : Params) : Obj := (Obj.mk (Value.type "tuple") .none (Data.seq #[] 0) #[])
noncomputable def hd.o204 (_ : Params) : Obj := withDef (x := defNo 30) rfl fun ps b sc => (Obj.mk Value.none .none (Data.func (FuncData.mk (st "whole_power") (st "whole_power") ps (FuncBody.stmts b) sc 0 [] Value.none Value.none Value.none Value.none .none Value.none Value.none 0)) #[])
noncomputable def hd.o205 (_ : Params) : Obj := (Obj.mk (Value.type "code") .none (Data.fields #[(sv "whole_power" 452), (sv "whole_power" 453), (sv "/claim/cut.py" 454), (iv 127), (iv 4), (iv 0), (iv 0), (iv 3), (rv 200), (Value.bool true), (iv 181), (rv 201), Value.none, (rv 202), (rv 203), (rv 204), (iv 459), (iv 127), (sv "/claim/cut.py" 460)]) #[])
noncomputable def hd.o206 (_ : Params) : Obj := withDef (x := defNo 30) rfl fun ps b sc => (Obj.mk (Value.type "function") .none (Data.func (FuncData.mk (st "whole_power") (st "whole_power") ps (FuncBody.stmts b) sc 3 [] Value.none Value.none Value.none (sv "basicplus.arith" 399) .none (rv 205) Value.none 0)) #[])
noncomputable def hd.o207 (_ : Params) : Obj := (Obj.mk (Value.type "tuple") .none (Data.seq #[] 0) #[])
noncomputable def hd.o208 (_ : Params) : Obj := (Obj.mk Value.none .none (Data.fields #[]) #[])
noncomputable def hd.o209 (_ : Params) : Obj := (Obj.mk (Value.type "tuple") .none (Data.seq #[(sv "a" 465), (sv "b" 466), (sv "bits" 467), (sv "digits" 468), (sv "n" 469)] 0) #[])
noncomputable def hd.o210 (_ : Params) : Obj := (Obj.mk (Value.type "tuple") .none (Data.seq #[] 0) #[])
noncomputable def hd.o211 (_ : Params) : Obj := withDef (x := defNo 31) rfl fun ps b sc => (Obj.mk Value.none .none (Data.func (FuncData.mk (st "raised") (st "raised") ps (FuncBody.stmts b) sc 0 [] Value.none Value.none Value.none Value.none .none Value.none Value.none 0)) #[])
noncomputable def hd.o212 (_ : Params) : Obj := (Obj.mk (Value.type "code") .none (Data.fields #[(sv "raised" 462), (sv "raised" 463), (sv "/claim/cut.py" 464), (iv 133), (iv 4), (iv 0), (iv 0), (iv 3), (rv 207), (Value.bool true), (iv 181), (rv 208), Value.none, (rv 209), (rv 210), (rv 211), (iv 470), (iv 133), (sv "/claim/cut.py" 471)]) #[])
noncomputable def hd.o213 (_ : Params) : Obj := withDef (x := defNo 31) rfl fun ps b sc => (Obj.mk (Value.type "function") .none (Data.func (FuncData.mk (st "raised") (st "raised") ps (FuncBody.stmts b) sc 3 [] Value.none Value.none Value.none (sv "basicplus.arith" 399) .none (rv 212) Value.none 0)) #[])
noncomputable def hd.o214 (_ : Params) : Obj := (Obj.mk (Value.type "tuple") .none (Data.seq #[] 0) #[])
noncomputable def hd.o215 (_ : Params) : Obj := (Obj.mk Value.none .none (Data.fields #[]) #[])
noncomputable def hd.o216 (_ : Params) : Obj := (Obj.mk (Value.type "tuple") .none (Data.seq #[(sv "op" 476), (sv "a" 477), (sv "b" 478), (sv "bits" 479), (sv "digits" 480), (sv "is_first" 481), (sv "is_second" 482), (sv "work" 483), (sv "one" 484), (sv "other" 485)] 0) #[])
noncomputable def hd.o217 (_ : Params) : Obj := (Obj.mk (Value.type "tuple") .none (Data.seq #[] 0) #[])
noncomputable def hd.o218 (_ : Params) : Obj := withDef (x := defNo 32) rfl fun ps b sc => (Obj.mk Value.none .none (Data.func (FuncData.mk (st "reckoned") (st "reckoned") ps (FuncBody.stmts b) sc 0 [] Value.none Value.none Value.none Value.none .none Value.none Value.none 0)) #[])
noncomputable def hd.o219 (_ : Params) : Obj := (Obj.mk (Value.type "code") .none (Data.fields #[(sv "reckoned" 473), (sv "reckoned" 474), (sv "/claim/cut.py" 475), (iv 138), (iv 5), (iv 0), (iv 0), (iv 3), (rv 214), (Value.bool true), (iv 181), (rv 215), Value.none, (rv 216), (rv 217), (rv 218), (iv 486), (iv 138), (sv "/claim/cut.py" 487)]) #[])
noncomputable def hd.o220 (_ : Params) : Obj := withDef (x := defNo 32) rfl fun ps b sc => (Obj.mk (Value.type "function") .none (Data.func (FuncData.mk (st "reckoned") (st "reckoned") ps (FuncBody.stmts b) sc 3 [] Value.none Value.none Value.none (sv "basicplus.arith" 399) .none (rv 219) Value.none 0)) #[])
noncomputable def hd.o221 (_ : Params) : Obj := (Obj.mk (Value.type "tuple") .none (Data.seq #[] 0) #[])
noncomputable def hd.o222 (_ : Params) : Obj := (Obj.mk Value.none .none (Data.fields #[]) #[])
noncomputable def hd.o223 (_ : Params) : Obj := (Obj.mk (Value.type "tuple") .none (Data.seq #[(sv "a" 492), (sv "bits" 493), (sv "digits" 494)] 0) #[])
noncomputable def hd.o224 (_ : Params) : Obj := (Obj.mk (Value.type "tuple") .none (Data.seq #[] 0) #[])
noncomputable def hd.o225 (_ : Params) : Obj := withDef (x := defNo 33) rfl fun ps b sc => (Obj.mk Value.none .none (Data.func (FuncData.mk (st "negated") (st "negated") ps (FuncBody.stmts b) sc 0 [] Value.none Value.none Value.none Value.none .none Value.none Value.none 0)) #[])
noncomputable def hd.o226 (_ : Params) : Obj := (Obj.mk (Value.type "code") .none (Data.fields #[(sv "negated" 489), (sv "negated" 490), (sv "/claim/cut.py" 491), (iv 153), (iv 3), (iv 0), (iv 0), (iv 3), (rv 221), (Value.bool true), (iv 181), (rv 222), Value.none, (rv 223), (rv 224), (rv 225), (iv 495), (iv 153), (sv "/claim/cut.py" 496)]) #[])
noncomputable def hd.o227 (_ : Params) : Obj := withDef (x := defNo 33) rfl fun ps b sc => (Obj.mk (Value.type "function") .none (Data.func (FuncData.mk (st "negated") (st "negated") ps (FuncBody.stmts b) sc 3 [] Value.none Value.none Value.none (sv "basicplus.arith" 399) .none (rv 226) Value.none 0)) #[])
noncomputable def hd.o228 (_ : Params) : Obj := (Obj.mk (Value.type "tuple") .none (Data.seq #[] 0) #[])
noncomputable def hd.o229 (_ : Params) : Obj := (Obj.mk Value.none .none (Data.fields #[]) #[])
noncomputable def hd.o230 (_ : Params) : Obj := (Obj.mk (Value.type "tuple") .none (Data.seq #[(sv "a" 501), (sv "b" 502)] 0) #[])
noncomputable def hd.o231 (_ : Params) : Obj := (Obj.mk (Value.type "tuple") .none (Data.seq #[] 0) #[])
noncomputable def hd.o232 (_ : Params) : Obj := withDef (x := defNo 34) rfl fun ps b sc => (Obj.mk Value.none .none (Data.func (FuncData.mk (st "order_of") (st "order_of") ps (FuncBody.stmts b) sc 0 [] Value.none Value.none Value.none Value.none .none Value.none Value.none 0)) #[])
noncomputable def hd.o233 (_ : Params) : Obj := (Obj.mk (Value.type "code") .none (Data.fields #[(sv "order_of" 498), (sv "order_of" 499), (sv "/claim/cut.py" 500), (iv 155), (iv 2), (iv 0), (iv 0), (iv 3), (rv 228), (Value.bool true), (iv 181), (rv 229), Value.none, (rv 230), (rv 231), (rv 232), (iv 503), (iv 155), (sv "/claim/cut.py" 504)]) #[])
noncomputable def hd.o234 (_ : Params) : Obj := withDef (x := defNo 34) rfl fun ps b sc => (Obj.mk (Value.type "function") .none (Data.func (FuncData.mk (st "order_of") (st "order_of") ps (FuncBody.stmts b) sc 3 [] Value.none Value.none Value.none (sv "basicplus.arith" 399) .none (rv 233) Value.none 0)) #[])
noncomputable def hd.o235 (_ : Params) : Obj := (Obj.mk (Value.type "tuple") .none (Data.seq #[] 0) #[])
noncomputable def hd.o236 (_ : Params) : Obj := (Obj.mk Value.none .none (Data.fields #[]) #[])
noncomputable def hd.o237 (_ : Params) : Obj := (Obj.mk (Value.type "tuple") .none (Data.seq #[(sv "op" 509), (sv "order" 510)] 0) #[])
noncomputable def hd.o238 (_ : Params) : Obj := (Obj.mk (Value.type "tuple") .none (Data.seq #[] 0) #[])
noncomputable def hd.o239 (_ : Params) : Obj := withDef (x := defNo 35) rfl fun ps b sc => (Obj.mk Value.none .none (Data.func (FuncData.mk (st "stands_so") (st "stands_so") ps (FuncBody.stmts b) sc 0 [] Value.none Value.none Value.none Value.none .none Value.none Value.none 0)) #[])
noncomputable def hd.o240 (_ : Params) : Obj := (Obj.mk (Value.type "code") .none (Data.fields #[(sv "stands_so" 506), (sv "stands_so" 507), (sv "/claim/cut.py" 508), (iv 161), (iv 2), (iv 0), (iv 0), (iv 3), (rv 235), (Value.bool true), (iv 181), (rv 236), Value.none, (rv 237), (rv 238), (rv 239), (iv 511), (iv 161), (sv "/claim/cut.py" 512)]) #[])
noncomputable def hd.o241 (_ : Params) : Obj := withDef (x := defNo 35) rfl fun ps b sc => (Obj.mk (Value.type "function") .none (Data.func (FuncData.mk (st "stands_so") (st "stands_so") ps (FuncBody.stmts b) sc 3 [] Value.none Value.none Value.none (sv "basicplus.arith" 399) .none (rv 240) Value.none 0)) #[])
noncomputable def hd.o242 (_ : Params) : Obj := (Obj.mk (Value.type "tuple") .none (Data.seq #[] 0) #[])
noncomputable def hd.o243 (_ : Params) : Obj := (Obj.mk Value.none .none (Data.fields #[]) #[])
noncomputable def hd.o244 (_ : Params) : Obj := (Obj.mk (Value.type "tuple") .none (Data.seq #[(sv "a" 517), (sv "bits" 518)] 0) #[])
noncomputable def hd.o245 (_ : Params) : Obj := (Obj.mk (Value.type "tuple") .none (Data.seq #[] 0) #[])
noncomputable def hd.o246 (_ : Params) : Obj := withDef (x := defNo 36) rfl fun ps b sc => (Obj.mk Value.none .none (Data.func (FuncData.mk (st "inverted") (st "inverted") ps (FuncBody.stmts b) sc 0 [] Value.none Value.none Value.none Value.none .none Value.none Value.none 0)) #[])
noncomputable def hd.o247 (_ : Params) : Obj := (Obj.mk (Value.type "code") .none (Data.fields #[(sv "inverted" 514), (sv "inverted" 515), (sv "/claim/cut.py" 516), (iv 167), (iv 2), (iv 0), (iv 0), (iv 3), (rv 242), (Value.bool true), (iv 181), (rv 243), Value.none, (rv 244), (rv 245), (rv 246), (iv 519), (iv 167), (sv "/claim/cut.py" 520)]) #[])
noncomputable def hd.o248 (_ : Params) : Obj := withDef (x := defNo 36) rfl fun ps b sc => (Obj.mk (Value.type "function") .none (Data.func (FuncData.mk (st "inverted") (st "inverted") ps (FuncBody.stmts b) sc 3 [] Value.none Value.none Value.none (sv "basicplus.arith" 399) .none (rv 247) Value.none 0)) #[])
noncomputable def hd.o249 (_ : Params) : Obj := (Obj.mk (Value.type "tuple") .none (Data.seq #[] 0) #[])
noncomputable def hd.o250 (_ : Params) : Obj := (Obj.mk Value.none .none (Data.fields #[]) #[])
noncomputable def hd.o251 (_ : Params) : Obj := (Obj.mk (Value.type "tuple") .none (Data.seq #[(sv "op" 525), (sv "a" 526), (sv "b" 527), (sv "bits" 528), (sv "one" 529), (sv "other" 530)] 0) #[])
noncomputable def hd.o252 (_ : Params) : Obj := (Obj.mk (Value.type "tuple") .none (Data.seq #[] 0) #[])
noncomputable def hd.o253 (_ : Params) : Obj := withDef (x := defNo 37) rfl fun ps b sc => (Obj.mk Value.none .none (Data.func (FuncData.mk (st "logic") (st "logic") ps (FuncBody.stmts b) sc 0 [] Value.none Value.none Value.none Value.none .none Value.none Value.none 0)) #[])
noncomputable def hd.o254 (_ : Params) : Obj := (Obj.mk (Value.type "code") .none (Data.fields #[(sv "logic" 522), (sv "logic" 523), (sv "/claim/cut.py" 524), (iv 169), (iv 4), (iv 0), (iv 0), (iv 3), (rv 249), (Value.bool true), (iv 181), (rv 250), Value.none, (rv 251), (rv 252), (rv 253), (iv 531), (iv 169), (sv "/claim/cut.py" 532)]) #[])
noncomputable def hd.o255 (_ : Params) : Obj := withDef (x := defNo 37) rfl fun ps b sc => (Obj.mk (Value.type "function") .none (Data.func (FuncData.mk (st "logic") (st "logic") ps (FuncBody.stmts b) sc 3 [] Value.none Value.none Value.none (sv "basicplus.arith" 399) .none (rv 254) Value.none 0)) #[])
noncomputable def hd.o256 (_ : Params) : Obj := (Obj.mk (Value.type "tuple") .none (Data.seq #[] 0) #[])
noncomputable def hd.o257 (_ : Params) : Obj := (Obj.mk Value.none .none (Data.fields #[]) #[])
noncomputable def hd.o258 (_ : Params) : Obj := (Obj.mk (Value.type "tuple") .none (Data.seq #[(sv "box" 539), (sv "many" 540), (sv "digit" 541)] 0) #[])
noncomputable def hd.o259 (_ : Params) : Obj := (Obj.mk (Value.type "tuple") .none (Data.seq #[] 0) #[])
noncomputable def hd.o260 (_ : Params) : Obj := withDef (x := defNo 39) rfl fun ps b sc => (Obj.mk Value.none .none (Data.func (FuncData.mk (st "_law_take") (st "_law_take") ps (FuncBody.stmts b) sc 0 [] Value.none Value.none Value.none Value.none .none Value.none Value.none 0)) #[])
noncomputable def hd.o261 (_ : Params) : Obj := (Obj.mk (Value.type "code") .none (Data.fields #[(sv "_law_take" 536), (sv "_law_take" 537), (sv "/claim/cut.py" 538), (iv 179), (iv 2), (iv 0), (iv 0), (iv 3), (rv 256), (Value.bool true), (iv 181), (rv 257), Value.none, (rv 258), (rv 259), (rv 260), (iv 542), (iv 179), (sv "/claim/cut.py" 543)]) #[])
noncomputable def hd.o262 (_ : Params) : Obj := withDef (x := defNo 39) rfl fun ps b sc => (Obj.mk (Value.type "function") .none (Data.func (FuncData.mk (st "_law_take") (st "_law_take") ps (FuncBody.stmts b) sc 3 [] Value.none Value.none Value.none (sv "law_pc0008_01" 534) .none (rv 261) Value.none 0)) #[])
noncomputable def hd.o263 (_ : Params) : Obj := (Obj.mk (Value.type "tuple") .none (Data.seq #[] 0) #[])
noncomputable def hd.o264 (_ : Params) : Obj := (Obj.mk Value.none .none (Data.fields #[]) #[])
noncomputable def hd.o265 (_ : Params) : Obj := (Obj.mk (Value.type "tuple") .none (Data.seq #[(sv "script" 548), (sv "found" 549), (sv "one" 550)] 0) #[])
noncomputable def hd.o266 (_ : Params) : Obj := (Obj.mk (Value.type "tuple") .none (Data.seq #[] 0) #[])
noncomputable def hd.o267 (_ : Params) : Obj := withDef (x := defNo 40) rfl fun ps b sc => (Obj.mk Value.none .none (Data.func (FuncData.mk (st "_law_all") (st "_law_all") ps (FuncBody.stmts b) sc 0 [] Value.none Value.none Value.none Value.none .none Value.none Value.none 0)) #[])
noncomputable def hd.o268 (_ : Params) : Obj := (Obj.mk (Value.type "code") .none (Data.fields #[(sv "_law_all" 545), (sv "_law_all" 546), (sv "/claim/cut.py" 547), (iv 186), (iv 1), (iv 0), (iv 0), (iv 3), (rv 263), (Value.bool true), (iv 181), (rv 264), Value.none, (rv 265), (rv 266), (rv 267), (iv 551), (iv 186), (sv "/claim/cut.py" 552)]) #[])
noncomputable def hd.o269 (_ : Params) : Obj := withDef (x := defNo 40) rfl fun ps b sc => (Obj.mk (Value.type "function") .none (Data.func (FuncData.mk (st "_law_all") (st "_law_all") ps (FuncBody.stmts b) sc 3 [] Value.none Value.none Value.none (sv "law_pc0008_01" 534) .none (rv 268) Value.none 0)) #[])
noncomputable def hd.o270 (_ : Params) : Obj := (Obj.mk (Value.type "tuple") .none (Data.seq #[] 0) #[])
noncomputable def hd.o271 (_ : Params) : Obj := (Obj.mk Value.none .none (Data.fields #[]) #[])
noncomputable def hd.o272 (_ : Params) : Obj := (Obj.mk (Value.type "tuple") .none (Data.seq #[(sv "box" 557), (sv "figures" 558), (sv "number" 559), (sv "power" 560)] 0) #[])
noncomputable def hd.o273 (_ : Params) : Obj := (Obj.mk (Value.type "tuple") .none (Data.seq #[] 0) #[])
noncomputable def hd.o274 (_ : Params) : Obj := withDef (x := defNo 41) rfl fun ps b sc => (Obj.mk Value.none .none (Data.func (FuncData.mk (st "_law_drawn") (st "_law_drawn") ps (FuncBody.stmts b) sc 0 [] Value.none Value.none Value.none Value.none .none Value.none Value.none 0)) #[])
noncomputable def hd.o275 (_ : Params) : Obj := (Obj.mk (Value.type "code") .none (Data.fields #[(sv "_law_drawn" 554), (sv "_law_drawn" 555), (sv "/claim/cut.py" 556), (iv 191), (iv 2), (iv 0), (iv 0), (iv 3), (rv 270), (Value.bool true), (iv 181), (rv 271), Value.none, (rv 272), (rv 273), (rv 274), (iv 561), (iv 191), (sv "/claim/cut.py" 562)]) #[])
noncomputable def hd.o276 (_ : Params) : Obj := withDef (x := defNo 41) rfl fun ps b sc => (Obj.mk (Value.type "function") .none (Data.func (FuncData.mk (st "_law_drawn") (st "_law_drawn") ps (FuncBody.stmts b) sc 3 [] Value.none Value.none Value.none (sv "law_pc0008_01" 534) .none (rv 275) Value.none 0)) #[])
noncomputable def hd.o277 (_ : Params) : Obj := (Obj.mk (Value.type "tuple") .none (Data.seq #[] 0) #[])
noncomputable def hd.o278 (_ : Params) : Obj := (Obj.mk Value.none .none (Data.fields #[]) #[])
noncomputable def hd.o279 (_ : Params) : Obj := (Obj.mk (Value.type "tuple") .none (Data.seq #[(sv "work" 567), (sv "error" 568)] 0) #[])
noncomputable def hd.o280 (_ : Params) : Obj := (Obj.mk (Value.type "tuple") .none (Data.seq #[] 0) #[])
noncomputable def hd.o281 (_ : Params) : Obj := withDef (x := defNo 42) rfl fun ps b sc => (Obj.mk Value.none .none (Data.func (FuncData.mk (st "_law_heard") (st "_law_heard") ps (FuncBody.stmts b) sc 0 [] Value.none Value.none Value.none Value.none .none Value.none Value.none 0)) #[])
noncomputable def hd.o282 (_ : Params) : Obj := (Obj.mk (Value.type "code") .none (Data.fields #[(sv "_law_heard" 564), (sv "_law_heard" 565), (sv "/claim/cut.py" 566), (iv 199), (iv 1), (iv 0), (iv 0), (iv 3), (rv 277), (Value.bool true), (iv 181), (rv 278), Value.none, (rv 279), (rv 280), (rv 281), (iv 569), (iv 199), (sv "/claim/cut.py" 570)]) #[])
noncomputable def hd.o283 (_ : Params) : Obj := withDef (x := defNo 42) rfl fun ps b sc => (Obj.mk (Value.type "function") .none (Data.func (FuncData.mk (st "_law_heard") (st "_law_heard") ps (FuncBody.stmts b) sc 3 [] Value.none Value.none Value.none (sv "law_pc0008_01" 534) .none (rv 282) Value.none 0)) #[])
noncomputable def hd.o284 (_ : Params) : Obj := (Obj.mk (Value.type "tuple") .none (Data.seq #[] 0) #[])
noncomputable def hd.o285 (_ : Params) : Obj := (Obj.mk Value.none .none (Data.fields #[]) #[])
noncomputable def hd.o286 (_ : Params) : Obj := (Obj.mk (Value.type "tuple") .none (Data.seq #[(sv "number" 575), (sv "bits" 576), (sv "power" 577)] 0) #[])
noncomputable def hd.o287 (_ : Params) : Obj := (Obj.mk (Value.type "tuple") .none (Data.seq #[] 0) #[])
noncomputable def hd.o288 (_ : Params) : Obj := withDef (x := defNo 43) rfl fun ps b sc => (Obj.mk Value.none .none (Data.func (FuncData.mk (st "_law_kept") (st "_law_kept") ps (FuncBody.stmts b) sc 0 [] Value.none Value.none Value.none Value.none .none Value.none Value.none 0)) #[])
noncomputable def hd.o289 (_ : Params) : Obj := (Obj.mk (Value.type "code") .none (Data.fields #[(sv "_law_kept" 572), (sv "_law_kept" 573), (sv "/claim/cut.py" 574), (iv 204), (iv 2), (iv 0), (iv 0), (iv 3), (rv 284), (Value.bool true), (iv 181), (rv 285), Value.none, (rv 286), (rv 287), (rv 288), (iv 578), (iv 204), (sv "/claim/cut.py" 579)]) #[])
noncomputable def hd.o290 (_ : Params) : Obj := withDef (x := defNo 43) rfl fun ps b sc => (Obj.mk (Value.type "function") .none (Data.func (FuncData.mk (st "_law_kept") (st "_law_kept") ps (FuncBody.stmts b) sc 3 [] Value.none Value.none Value.none (sv "law_pc0008_01" 534) .none (rv 289) Value.none 0)) #[])
noncomputable def hd.o291 (_ : Params) : Obj := (Obj.mk (Value.type "tuple") .none (Data.seq #[] 0) #[])
noncomputable def hd.o292 (_ : Params) : Obj := (Obj.mk Value.none .none (Data.fields #[]) #[])
noncomputable def hd.o293 (_ : Params) : Obj := (Obj.mk (Value.type "tuple") .none (Data.seq #[(sv "value" 584), (sv "unit" 585), (sv "low" 586), (sv "rest" 587)] 0) #[])
noncomputable def hd.o294 (_ : Params) : Obj := (Obj.mk (Value.type "tuple") .none (Data.seq #[] 0) #[])
noncomputable def hd.o295 (_ : Params) : Obj := withDef (x := defNo 44) rfl fun ps b sc => (Obj.mk Value.none .none (Data.func (FuncData.mk (st "_law_near") (st "_law_near") ps (FuncBody.stmts b) sc 0 [] Value.none Value.none Value.none Value.none .none Value.none Value.none 0)) #[])
noncomputable def hd.o296 (_ : Params) : Obj := (Obj.mk (Value.type "code") .none (Data.fields #[(sv "_law_near" 581), (sv "_law_near" 582), (sv "/claim/cut.py" 583), (iv 211), (iv 1), (iv 0), (iv 0), (iv 3), (rv 291), (Value.bool true), (iv 181), (rv 292), Value.none, (rv 293), (rv 294), (rv 295), (iv 588), (iv 211), (sv "/claim/cut.py" 589)]) #[])
noncomputable def hd.o297 (_ : Params) : Obj := withDef (x := defNo 44) rfl fun ps b sc => (Obj.mk (Value.type "function") .none (Data.func (FuncData.mk (st "_law_near") (st "_law_near") ps (FuncBody.stmts b) sc 3 [] Value.none Value.none Value.none (sv "law_pc0008_01" 534) .none (rv 296) Value.none 0)) #[])
noncomputable def hd.o298 (_ : Params) : Obj := (Obj.mk (Value.type "tuple") .none (Data.seq #[] 0) #[])
noncomputable def hd.o299 (_ : Params) : Obj := (Obj.mk Value.none .none (Data.fields #[]) #[])
noncomputable def hd.o300 (_ : Params) : Obj := (Obj.mk (Value.type "tuple") .none (Data.seq #[(sv "a" 594), (sv "b" 595), (sv "bits" 596), (sv "is_early" 597), (sv "one" 598)] 0) #[])
noncomputable def hd.o301 (_ : Params) : Obj := (Obj.mk (Value.type "tuple") .none (Data.seq #[] 0) #[])
noncomputable def hd.o302 (_ : Params) : Obj := withDef (x := defNo 45) rfl fun ps b sc => (Obj.mk Value.none .none (Data.func (FuncData.mk (st "_law_wholes") (st "_law_wholes") ps (FuncBody.stmts b) sc 0 [] Value.none Value.none Value.none Value.none .none Value.none Value.none 0)) #[])
noncomputable def hd.o303 (_ : Params) : Obj := (Obj.mk (Value.type "code") .none (Data.fields #[(sv "_law_wholes" 591), (sv "_law_wholes" 592), (sv "/claim/cut.py" 593), (iv 219), (iv 4), (iv 0), (iv 0), (iv 3), (rv 298), (Value.bool true), (iv 181), (rv 299), Value.none, (rv 300), (rv 301), (rv 302), (iv 599), (iv 219), (sv "/claim/cut.py" 600)]) #[])
noncomputable def hd.o304 (_ : Params) : Obj := withDef (x := defNo 45) rfl fun ps b sc => (Obj.mk (Value.type "function") .none (Data.func (FuncData.mk (st "_law_wholes") (st "_law_wholes") ps (FuncBody.stmts b) sc 3 [] Value.none Value.none Value.none (sv "law_pc0008_01" 534) .none (rv 303) Value.none 0)) #[])
noncomputable def hd.o305 (_ : Params) : Obj := (Obj.mk (Value.type "tuple") .none (Data.seq #[] 0) #[])
noncomputable def hd.o306 (_ : Params) : Obj := (Obj.mk Value.none .none (Data.fields #[]) #[])
noncomputable def hd.o307 (_ : Params) : Obj := (Obj.mk (Value.type "tuple") .none (Data.seq #[(sv "op" 605), (sv "a" 606), (sv "b" 607), (sv "bits" 608), (sv "found" 609), (sv "place" 610), (sv "one" 611), (sv "other" 612), (sv "told" 613)] 0) #[])
noncomputable def hd.o308 (_ : Params) : Obj := (Obj.mk (Value.type "tuple") .none (Data.seq #[] 0) #[])
noncomputable def hd.o309 (_ : Params) : Obj := withDef (x := defNo 46) rfl fun ps b sc => (Obj.mk Value.none .none (Data.func (FuncData.mk (st "_law_bits") (st "_law_bits") ps (FuncBody.stmts b) sc 0 [] Value.none Value.none Value.none Value.none .none Value.none Value.none 0)) #[])
noncomputable def hd.o310 (_ : Params) : Obj := (Obj.mk (Value.type "code") .none (Data.fields #[(sv "_law_bits" 602), (sv "_law_bits" 603), (sv "/claim/cut.py" 604), (iv 228), (iv 4), (iv 0), (iv 0), (iv 3), (rv 305), (Value.bool true), (iv 181), (rv 306), Value.none, (rv 307), (rv 308), (rv 309), (iv 614), (iv 228), (sv "/claim/cut.py" 615)]) #[])
noncomputable def hd.o311 (_ : Params) : Obj := withDef (x := defNo 46) rfl fun ps b sc => (Obj.mk (Value.type "function") .none (Data.func (FuncData.mk (st "_law_bits") (st "_law_bits") ps (FuncBody.stmts b) sc 3 [] Value.none Value.none Value.none (sv "law_pc0008_01" 534) .none (rv 310) Value.none 0)) #[])
noncomputable def hd.o312 (_ : Params) : Obj := (Obj.mk (Value.type "tuple") .none (Data.seq #[] 0) #[])
noncomputable def hd.o313 (_ : Params) : Obj := (Obj.mk Value.none .none (Data.fields #[]) #[])
noncomputable def hd.o314 (_ : Params) : Obj := (Obj.mk (Value.type "tuple") .none (Data.seq #[(sv "op" 620), (sv "a" 621), (sv "b" 622), (sv "bits" 623), (sv "told" 624), (sv "one" 625), (sv "other" 626), (sv "whole" 627)] 0) #[])
noncomputable def hd.o315 (_ : Params) : Obj := (Obj.mk (Value.type "tuple") .none (Data.seq #[] 0) #[])
noncomputable def hd.o316 (_ : Params) : Obj := withDef (x := defNo 47) rfl fun ps b sc => (Obj.mk Value.none .none (Data.func (FuncData.mk (st "_law_due") (st "_law_due") ps (FuncBody.stmts b) sc 0 [] Value.none Value.none Value.none Value.none .none Value.none Value.none 0)) #[])
noncomputable def hd.o317 (_ : Params) : Obj := (Obj.mk (Value.type "code") .none (Data.fields #[(sv "_law_due" 617), (sv "_law_due" 618), (sv "/claim/cut.py" 619), (iv 235), (iv 4), (iv 0), (iv 0), (iv 3), (rv 312), (Value.bool true), (iv 181), (rv 313), Value.none, (rv 314), (rv 315), (rv 316), (iv 628), (iv 235), (sv "/claim/cut.py" 629)]) #[])
noncomputable def hd.o318 (_ : Params) : Obj := withDef (x := defNo 47) rfl fun ps b sc => (Obj.mk (Value.type "function") .none (Data.func (FuncData.mk (st "_law_due") (st "_law_due") ps (FuncBody.stmts b) sc 3 [] Value.none Value.none Value.none (sv "law_pc0008_01" 534) .none (rv 317) Value.none 0)) #[])
noncomputable def hd.o319 (_ : Params) : Obj := (Obj.mk (Value.type "tuple") .none (Data.seq #[] 0) #[])
noncomputable def hd.o320 (_ : Params) : Obj := (Obj.mk Value.none .none (Data.fields #[]) #[])
noncomputable def hd.o321 (_ : Params) : Obj := (Obj.mk (Value.type "tuple") .none (Data.seq #[(sv "box" 634), (sv "bits" 635), (sv "form" 636)] 0) #[])
noncomputable def hd.o322 (_ : Params) : Obj := (Obj.mk (Value.type "tuple") .none (Data.seq #[] 0) #[])
noncomputable def hd.o323 (_ : Params) : Obj := withDef (x := defNo 48) rfl fun ps b sc => (Obj.mk Value.none .none (Data.func (FuncData.mk (st "_law_value") (st "_law_value") ps (FuncBody.stmts b) sc 0 [] Value.none Value.none Value.none Value.none .none Value.none Value.none 0)) #[])
noncomputable def hd.o324 (_ : Params) : Obj := (Obj.mk (Value.type "code") .none (Data.fields #[(sv "_law_value" 631), (sv "_law_value" 632), (sv "/claim/cut.py" 633), (iv 250), (iv 2), (iv 0), (iv 0), (iv 3), (rv 319), (Value.bool true), (iv 181), (rv 320), Value.none, (rv 321), (rv 322), (rv 323), (iv 637), (iv 250), (sv "/claim/cut.py" 638)]) #[])
noncomputable def hd.o325 (_ : Params) : Obj := withDef (x := defNo 48) rfl fun ps b sc => (Obj.mk (Value.type "function") .none (Data.func (FuncData.mk (st "_law_value") (st "_law_value") ps (FuncBody.stmts b) sc 3 [] Value.none Value.none Value.none (sv "law_pc0008_01" 534) .none (rv 324) Value.none 0)) #[])
noncomputable def hd.o326 (_ : Params) : Obj := (Obj.mk (Value.type "tuple") .none (Data.seq #[] 0) #[])
noncomputable def hd.o327 (_ : Params) : Obj := (Obj.mk Value.none .none (Data.fields #[]) #[])
noncomputable def hd.o328 (_ : Params) : Obj := (Obj.mk (Value.type "tuple") .none (Data.seq #[(sv "a" 643), (sv "b" 644), (sv "bits" 645), (sv "small" 646), (sv "told" 647)] 0) #[])
noncomputable def hd.o329 (_ : Params) : Obj := (Obj.mk (Value.type "tuple") .none (Data.seq #[(sv "a" 648), (sv "b" 649), (sv "bits" 650), (sv "op" 651)] 0) #[])
noncomputable def hd.o330 (_ : Params) : Obj := withDef (x := defNo 49) rfl fun ps b sc => (Obj.mk Value.none .none (Data.func (FuncData.mk (st "_law_pair_right") (st "_law_pair_right") ps (FuncBody.stmts b) sc 0 [] Value.none Value.none Value.none Value.none .none Value.none Value.none 0)) #[])
noncomputable def hd.o331 (_ : Params) : Obj := (Obj.mk (Value.type "code") .none (Data.fields #[(sv "_law_pair_right" 640), (sv "_law_pair_right" 641), (sv "/claim/cut.py" 642), (iv 255), (iv 3), (iv 0), (iv 0), (iv 3), (rv 326), (Value.bool true), (iv 181), (rv 327), Value.none, (rv 328), (rv 329), (rv 330), (iv 652), (iv 255), (sv "/claim/cut.py" 653)]) #[])
noncomputable def hd.o332 (_ : Params) : Obj := withDef (x := defNo 49) rfl fun ps b sc => (Obj.mk (Value.type "function") .none (Data.func (FuncData.mk (st "_law_pair_right") (st "_law_pair_right") ps (FuncBody.stmts b) sc 3 [] Value.none Value.none Value.none (sv "law_pc0008_01" 534) .none (rv 331) Value.none 0)) #[])
noncomputable def hd.o333 (_ : Params) : Obj := (Obj.mk (Value.type "tuple") .none (Data.seq #[] 0) #[])
noncomputable def hd.o334 (_ : Params) : Obj := (Obj.mk Value.none .none (Data.fields #[]) #[])
noncomputable def hd.o335 (_ : Params) : Obj := withDef (x := defNo 50) rfl fun ps b sc => (Obj.mk Value.none .none (Data.func (FuncData.mk (st "_law_order_right") (st "_law_order_right") ps (FuncBody.stmts b) sc 0 [] Value.none Value.none Value.none Value.none .none Value.none Value.none 0)) #[])
noncomputable def hd.o336 (_ : Params) : Obj := (Obj.mk (Value.type "code") .none (Data.fields #[(sv "_law_order_right" 655), (sv "_law_order_right" 656), (sv "/claim/cut.py" 657), (iv 276), (iv 2), (iv 0), (iv 0), (iv 3), (rv 333), (Value.bool true), (iv 181), (rv 334), Value.none, Value.none, Value.none, (rv 335), (iv 658), (iv 276), (sv "/claim/cut.py" 659)]) #[])
noncomputable def hd.o337 (_ : Params) : Obj := withDef (x := defNo 50) rfl fun ps b sc => (Obj.mk (Value.type "function") .none (Data.func (FuncData.mk (st "_law_order_right") (st "_law_order_right") ps (FuncBody.stmts b) sc 3 [] Value.none Value.none Value.none (sv "law_pc0008_01" 534) .none (rv 336) Value.none 0)) #[])
noncomputable def hd.o338 (_ : Params) : Obj := (Obj.mk (Value.type "tuple") .none (Data.seq #[] 0) #[])
noncomputable def hd.o339 (_ : Params) : Obj := (Obj.mk Value.none .none (Data.fields #[]) #[])
noncomputable def hd.o340 (_ : Params) : Obj := (Obj.mk (Value.type "tuple") .none (Data.seq #[(sv "script" 664), (sv "box" 665), (sv "bits" 666), (sv "turn" 667), (sv "a" 668), (sv "b" 669)] 0) #[])
noncomputable def hd.o341 (_ : Params) : Obj := (Obj.mk (Value.type "tuple") .none (Data.seq #[] 0) #[])
noncomputable def hd.o342 (_ : Params) : Obj := withDef (x := defNo 51) rfl fun ps b sc => (Obj.mk Value.none .none (Data.func (FuncData.mk (st "law") (st "law") ps (FuncBody.stmts b) sc 0 [] Value.none Value.none Value.none Value.none .none Value.none Value.none 0)) #[])
noncomputable def hd.o343 (_ : Params) : Obj := (Obj.mk (Value.type "code") .none (Data.fields #[(sv "law" 661), (sv "law" 662), (sv "/claim/cut.py" 663), (iv 286), (iv 1), (iv 0), (iv 0), (iv 3), (rv 338), (Value.bool true), (iv 181), (rv 339), Value.none, (rv 340), (rv 341), (rv 342), (iv 670), (iv 286), (sv "/claim/cut.py" 671)]) #[])
noncomputable def hd.o344 (_ : Params) : Obj := withDef (x := defNo 51) rfl fun ps b sc => (Obj.mk (Value.type "function") .none (Data.func (FuncData.mk (st "law") (st "law") ps (FuncBody.stmts b) sc 3 [] Value.none Value.none Value.none (sv "law_pc0008_01" 534) .none (rv 343) Value.none 0)) #[])
noncomputable def hd.heap_39 (P : Params) : Frag := [(nat_lit 2, hd.o2 P), (nat_lit 3, hd.o3 P), (nat_lit 15, hd.o15 P), (nat_lit 18, hd.o18 P), (nat_lit 23, hd.o23 P), (nat_lit 24, hd.o24 P), (nat_lit 25, hd.o25 P), (nat_lit 27, hd.o27 P), (nat_lit 28, hd.o28 P), (nat_lit 30, hd.o30 P), (nat_lit 31, hd.o31 P), (nat_lit 32, hd.o32 P),
  (nat_lit 33, hd.o33 P), (nat_lit 34, hd.o34 P), (nat_lit 35, hd.o35 P), (nat_lit 38, hd.o38 P), (nat_lit 40, hd.o40 P), (nat_lit 41, hd.o41 P), (nat_lit 43, hd.o43 P), (nat_lit 44, hd.o44 P), (nat_lit 45, hd.o45 P), (nat_lit 47, hd.o47 P), (nat_lit 48, hd.o48 P), (nat_lit 50, hd.o50 P),
  (nat_lit 51, hd.o51 P), (nat_lit 52, hd.o52 P), (nat_lit 54, hd.o54 P), (nat_lit 55, hd.o55 P), (nat_lit 57, hd.o57 P), (nat_lit 58, hd.o58 P), (nat_lit 59, hd.o59 P), (nat_lit 61, hd.o61 P), (nat_lit 62, hd.o62 P), (nat_lit 64, hd.o64 P), (nat_lit 65, hd.o65 P), (nat_lit 66, hd.o66 P),
  (nat_lit 68, hd.o68 P), (nat_lit 69, hd.o69 P), (nat_lit 71, hd.o71 P), (nat_lit 72, hd.o72 P), (nat_lit 73, hd.o73 P), (nat_lit 75, hd.o75 P), (nat_lit 76, hd.o76 P), (nat_lit 78, hd.o78 P), (nat_lit 79, hd.o79 P), (nat_lit 80, hd.o80 P), (nat_lit 82, hd.o82 P), (nat_lit 83, hd.o83 P),
  (nat_lit 85, hd.o85 P), (nat_lit 86, hd.o86 P), (nat_lit 87, hd.o87 P), (nat_lit 88, hd.o88 P), (nat_lit 90, hd.o90 P), (nat_lit 91, hd.o91 P), (nat_lit 93, hd.o93 P), (nat_lit 94, hd.o94 P), (nat_lit 95, hd.o95 P), (nat_lit 97, hd.o97 P), (nat_lit 98, hd.o98 P), (nat_lit 100, hd.o100 P),
  (nat_lit 101, hd.o101 P), (nat_lit 102, hd.o102 P), (nat_lit 104, hd.o104 P), (nat_lit 105, hd.o105 P), (nat_lit 107, hd.o107 P), (nat_lit 108, hd.o108 P), (nat_lit 109, hd.o109 P), (nat_lit 111, hd.o111 P), (nat_lit 112, hd.o112 P), (nat_lit 114, hd.o114 P), (nat_lit 115, hd.o115 P), (nat_lit 116, hd.o116 P),
  (nat_lit 118, hd.o118 P), (nat_lit 119, hd.o119 P), (nat_lit 121, hd.o121 P), (nat_lit 122, hd.o122 P), (nat_lit 123, hd.o123 P), (nat_lit 125, hd.o125 P), (nat_lit 126, hd.o126 P), (nat_lit 128, hd.o128 P), (nat_lit 129, hd.o129 P), (nat_lit 130, hd.o130 P), (nat_lit 132, hd.o132 P), (nat_lit 133, hd.o133 P),
  (nat_lit 135, hd.o135 P), (nat_lit 136, hd.o136 P), (nat_lit 137, hd.o137 P), (nat_lit 139, hd.o139 P), (nat_lit 140, hd.o140 P), (nat_lit 142, hd.o142 P), (nat_lit 143, hd.o143 P), (nat_lit 144, hd.o144 P), (nat_lit 146, hd.o146 P), (nat_lit 147, hd.o147 P), (nat_lit 149, hd.o149 P), (nat_lit 150, hd.o150 P),
  (nat_lit 151, hd.o151 P), (nat_lit 153, hd.o153 P), (nat_lit 154, hd.o154 P), (nat_lit 156, hd.o156 P), (nat_lit 157, hd.o157 P), (nat_lit 158, hd.o158 P), (nat_lit 160, hd.o160 P), (nat_lit 161, hd.o161 P), (nat_lit 163, hd.o163 P), (nat_lit 164, hd.o164 P), (nat_lit 165, hd.o165 P), (nat_lit 167, hd.o167 P),
  (nat_lit 168, hd.o168 P), (nat_lit 170, hd.o170 P), (nat_lit 171, hd.o171 P), (nat_lit 172, hd.o172 P), (nat_lit 174, hd.o174 P), (nat_lit 175, hd.o175 P), (nat_lit 177, hd.o177 P), (nat_lit 178, hd.o178 P), (nat_lit 179, hd.o179 P), (nat_lit 181, hd.o181 P), (nat_lit 182, hd.o182 P), (nat_lit 184, hd.o184 P),
  (nat_lit 185, hd.o185 P), (nat_lit 186, hd.o186 P), (nat_lit 188, hd.o188 P), (nat_lit 189, hd.o189 P), (nat_lit 191, hd.o191 P), (nat_lit 192, hd.o192 P), (nat_lit 193, hd.o193 P), (nat_lit 195, hd.o195 P), (nat_lit 196, hd.o196 P), (nat_lit 198, hd.o198 P), (nat_lit 199, hd.o199 P), (nat_lit 200, hd.o200 P),
  (nat_lit 202, hd.o202 P), (nat_lit 203, hd.o203 P), (nat_lit 205, hd.o205 P), (nat_lit 206, hd.o206 P), (nat_lit 207, hd.o207 P), (nat_lit 209, hd.o209 P), (nat_lit 210, hd.o210 P), (nat_lit 212, hd.o212 P), (nat_lit 213, hd.o213 P), (nat_lit 214, hd.o214 P), (nat_lit 216, hd.o216 P), (nat_lit 217, hd.o217 P),
  (nat_lit 219, hd.o219 P), (nat_lit 220, hd.o220 P), (nat_lit 221, hd.o221 P), (nat_lit 223, hd.o223 P), (nat_lit 224, hd.o224 P), (nat_lit 226, hd.o226 P), (nat_lit 227, hd.o227 P), (nat_lit 228, hd.o228 P), (nat_lit 230, hd.o230 P), (nat_lit 231, hd.o231 P), (nat_lit 233, hd.o233 P), (nat_lit 234, hd.o234 P),
  (nat_lit 235, hd.o235 P), (nat_lit 237, hd.o237 P), (nat_lit 238, hd.o238 P), (nat_lit 240, hd.o240 P), (nat_lit 241, hd.o241 P), (nat_lit 242, hd.o242 P), (nat_lit 244, hd.o244 P), (nat_lit 245, hd.o245 P), (nat_lit 247, hd.o247 P), (nat_lit 248, hd.o248 P), (nat_lit 249, hd.o249 P), (nat_lit 251, hd.o251 P),
  (nat_lit 252, hd.o252 P), (nat_lit 254, hd.o254 P), (nat_lit 255, hd.o255 P), (nat_lit 256, hd.o256 P), (nat_lit 258, hd.o258 P), (nat_lit 259, hd.o259 P), (nat_lit 261, hd.o261 P), (nat_lit 262, hd.o262 P), (nat_lit 263, hd.o263 P), (nat_lit 265, hd.o265 P), (nat_lit 266, hd.o266 P), (nat_lit 268, hd.o268 P),
  (nat_lit 269, hd.o269 P), (nat_lit 270, hd.o270 P), (nat_lit 272, hd.o272 P), (nat_lit 273, hd.o273 P), (nat_lit 275, hd.o275 P), (nat_lit 276, hd.o276 P), (nat_lit 277, hd.o277 P), (nat_lit 279, hd.o279 P), (nat_lit 280, hd.o280 P), (nat_lit 282, hd.o282 P), (nat_lit 283, hd.o283 P), (nat_lit 284, hd.o284 P),
  (nat_lit 286, hd.o286 P), (nat_lit 287, hd.o287 P), (nat_lit 289, hd.o289 P), (nat_lit 290, hd.o290 P), (nat_lit 291, hd.o291 P), (nat_lit 293, hd.o293 P), (nat_lit 294, hd.o294 P), (nat_lit 296, hd.o296 P), (nat_lit 297, hd.o297 P), (nat_lit 298, hd.o298 P), (nat_lit 300, hd.o300 P), (nat_lit 301, hd.o301 P),
  (nat_lit 303, hd.o303 P), (nat_lit 304, hd.o304 P), (nat_lit 305, hd.o305 P), (nat_lit 307, hd.o307 P), (nat_lit 308, hd.o308 P), (nat_lit 310, hd.o310 P), (nat_lit 311, hd.o311 P), (nat_lit 312, hd.o312 P), (nat_lit 314, hd.o314 P), (nat_lit 315, hd.o315 P), (nat_lit 317, hd.o317 P), (nat_lit 318, hd.o318 P),
  (nat_lit 319, hd.o319 P), (nat_lit 321, hd.o321 P), (nat_lit 322, hd.o322 P), (nat_lit 324, hd.o324 P), (nat_lit 325, hd.o325 P), (nat_lit 326, hd.o326 P), (nat_lit 328, hd.o328 P), (nat_lit 329, hd.o329 P), (nat_lit 331, hd.o331 P), (nat_lit 332, hd.o332 P), (nat_lit 333, hd.o333 P), (nat_lit 336, hd.o336 P),
  (nat_lit 337, hd.o337 P), (nat_lit 338, hd.o338 P), (nat_lit 340, hd.o340 P), (nat_lit 341, hd.o341 P), (nat_lit 343, hd.o343 P), (nat_lit 344, hd.o344 P)]
noncomputable def hd.top (P : Params) : Heap := { objs := { toList := [boot_o_0 P, boot_o_1 P, hd.o2 P, hd.o3 P, boot_o_4 P, boot_o_5 P, boot_o_6 P, boot_o_7 P, boot_o_8 P, boot_o_9 P, boot_o_10 P, hd.o11 P,
  hd.o12 P, hd.o13 P, hd.o14 P, hd.o15 P, hd.o16 P, hd.o17 P, hd.o18 P, hd.o19 P, hd.o20 P, hd.o21 P, hd.o22 P, hd.o23 P,
  hd.o24 P, hd.o25 P, hd.o26 P, hd.o27 P, hd.o28 P, hd.o29 P, hd.o30 P, hd.o31 P, hd.o32 P, hd.o33 P, hd.o34 P, hd.o35 P,
  hd.o36 P, hd.o37 P, hd.o38 P, hd.o39 P, hd.o40 P, hd.o41 P, hd.o42 P, hd.o43 P, hd.o44 P, hd.o45 P, hd.o46 P, hd.o47 P,
  hd.o48 P, hd.o49 P, hd.o50 P, hd.o51 P, hd.o52 P, hd.o53 P, hd.o54 P, hd.o55 P, hd.o56 P, hd.o57 P, hd.o58 P, hd.o59 P,
  hd.o60 P, hd.o61 P, hd.o62 P, hd.o63 P, hd.o64 P, hd.o65 P, hd.o66 P, hd.o67 P, hd.o68 P, hd.o69 P, hd.o70 P, hd.o71 P,
  hd.o72 P, hd.o73 P, hd.o74 P, hd.o75 P, hd.o76 P, hd.o77 P, hd.o78 P, hd.o79 P, hd.o80 P, hd.o81 P, hd.o82 P, hd.o83 P,
  hd.o84 P, hd.o85 P, hd.o86 P, hd.o87 P, hd.o88 P, hd.o89 P, hd.o90 P, hd.o91 P, hd.o92 P, hd.o93 P, hd.o94 P, hd.o95 P,
  hd.o96 P, hd.o97 P, hd.o98 P, hd.o99 P, hd.o100 P, hd.o101 P, hd.o102 P, hd.o103 P, hd.o104 P, hd.o105 P, hd.o106 P, hd.o107 P,
  hd.o108 P, hd.o109 P, hd.o110 P, hd.o111 P, hd.o112 P, hd.o113 P, hd.o114 P, hd.o115 P, hd.o116 P, hd.o117 P, hd.o118 P, hd.o119 P,
  hd.o120 P, hd.o121 P, hd.o122 P, hd.o123 P, hd.o124 P, hd.o125 P, hd.o126 P, hd.o127 P, hd.o128 P, hd.o129 P, hd.o130 P, hd.o131 P,
  hd.o132 P, hd.o133 P, hd.o134 P, hd.o135 P, hd.o136 P, hd.o137 P, hd.o138 P, hd.o139 P, hd.o140 P, hd.o141 P, hd.o142 P, hd.o143 P,
  hd.o144 P, hd.o145 P, hd.o146 P, hd.o147 P, hd.o148 P, hd.o149 P, hd.o150 P, hd.o151 P, hd.o152 P, hd.o153 P, hd.o154 P, hd.o155 P,
  hd.o156 P, hd.o157 P, hd.o158 P, hd.o159 P, hd.o160 P, hd.o161 P, hd.o162 P, hd.o163 P, hd.o164 P, hd.o165 P, hd.o166 P, hd.o167 P,
  hd.o168 P, hd.o169 P, hd.o170 P, hd.o171 P, hd.o172 P, hd.o173 P, hd.o174 P, hd.o175 P, hd.o176 P, hd.o177 P, hd.o178 P, hd.o179 P,
  hd.o180 P, hd.o181 P, hd.o182 P, hd.o183 P, hd.o184 P, hd.o185 P, hd.o186 P, hd.o187 P, hd.o188 P, hd.o189 P, hd.o190 P, hd.o191 P,
  hd.o192 P, hd.o193 P, hd.o194 P, hd.o195 P, hd.o196 P, hd.o197 P, hd.o198 P, hd.o199 P, hd.o200 P, hd.o201 P, hd.o202 P, hd.o203 P,
  hd.o204 P, hd.o205 P, hd.o206 P, hd.o207 P, hd.o208 P, hd.o209 P, hd.o210 P, hd.o211 P, hd.o212 P, hd.o213 P, hd.o214 P, hd.o215 P,
  hd.o216 P, hd.o217 P, hd.o218 P, hd.o219 P, hd.o220 P, hd.o221 P, hd.o222 P, hd.o223 P, hd.o224 P, hd.o225 P, hd.o226 P, hd.o227 P,
  hd.o228 P, hd.o229 P, hd.o230 P, hd.o231 P, hd.o232 P, hd.o233 P, hd.o234 P, hd.o235 P, hd.o236 P, hd.o237 P, hd.o238 P, hd.o239 P,
  hd.o240 P, hd.o241 P, hd.o242 P, hd.o243 P, hd.o244 P, hd.o245 P, hd.o246 P, hd.o247 P, hd.o248 P, hd.o249 P, hd.o250 P, hd.o251 P,
  hd.o252 P, hd.o253 P, hd.o254 P, hd.o255 P, hd.o256 P, hd.o257 P, hd.o258 P, hd.o259 P, hd.o260 P, hd.o261 P, hd.o262 P, hd.o263 P,
  hd.o264 P, hd.o265 P, hd.o266 P, hd.o267 P, hd.o268 P, hd.o269 P, hd.o270 P, hd.o271 P, hd.o272 P, hd.o273 P, hd.o274 P, hd.o275 P,
  hd.o276 P, hd.o277 P, hd.o278 P, hd.o279 P, hd.o280 P, hd.o281 P, hd.o282 P, hd.o283 P, hd.o284 P, hd.o285 P, hd.o286 P, hd.o287 P,
  hd.o288 P, hd.o289 P, hd.o290 P, hd.o291 P, hd.o292 P, hd.o293 P, hd.o294 P, hd.o295 P, hd.o296 P, hd.o297 P, hd.o298 P, hd.o299 P,
  hd.o300 P, hd.o301 P, hd.o302 P, hd.o303 P, hd.o304 P, hd.o305 P, hd.o306 P, hd.o307 P, hd.o308 P, hd.o309 P, hd.o310 P, hd.o311 P,
  hd.o312 P, hd.o313 P, hd.o314 P, hd.o315 P, hd.o316 P, hd.o317 P, hd.o318 P, hd.o319 P, hd.o320 P, hd.o321 P, hd.o322 P, hd.o323 P,
  hd.o324 P, hd.o325 P, hd.o326 P, hd.o327 P, hd.o328 P, hd.o329 P, hd.o330 P, hd.o331 P, hd.o332 P, hd.o333 P, hd.o334 P, hd.o335 P,
  hd.o336 P, hd.o337 P, hd.o338 P, hd.o339 P, hd.o340 P, hd.o341 P, hd.o342 P, hd.o343 P, hd.o344 P] } }
noncomputable def lawAs : List Addr := [2, 3, 15, 18, 23, 24, 25, 27, 28, 30, 31, 32, 33, 34, 35, 38, 40, 41, 43, 44, 45, 47, 48, 50, 51, 52, 54, 55, 57, 58,
  59, 61, 62, 64, 65, 66, 68, 69, 71, 72, 73, 75, 76, 78, 79, 80, 82, 83, 85, 86, 87, 88, 90, 91, 93, 94, 95, 97, 98, 100,
  101, 102, 104, 105, 107, 108, 109, 111, 112, 114, 115, 116, 118, 119, 121, 122, 123, 125, 126, 128, 129, 130, 132, 133, 135, 136, 137, 139, 140, 142,
  143, 144, 146, 147, 149, 150, 151, 153, 154, 156, 157, 158, 160, 161, 163, 164, 165, 167, 168, 170, 171, 172, 174, 175, 177, 178, 179, 181, 182, 184,
  185, 186, 188, 189, 191, 192, 193, 195, 196, 198, 199, 200, 202, 203, 205, 206, 207, 209, 210, 212, 213, 214, 216, 217, 219, 220, 221, 223, 224, 226,
  227, 228, 230, 231, 233, 234, 235, 237, 238, 240, 241, 242, 244, 245, 247, 248, 249, 251, 252, 254, 255, 256, 258, 259, 261, 262, 263, 265, 266, 268,
  269, 270, 272, 273, 275, 276, 277, 279, 280, 282, 283, 284, 286, 287, 289, 290, 291, 293, 294, 296, 297, 298, 300, 301, 303, 304, 305, 307, 308, 310,
  311, 312, 314, 315, 317, 318, 319, 321, 322, 324, 325, 326, 328, 329, 331, 332, 333, 336, 337, 338, 340, 341, 343, 344]
end Mine
end TextTB0
section TextTB1
open PySem PySem.W PyProof.Rows
set_option Elab.async false
set_option maxRecDepth 100000
namespace Mine
noncomputable def topRunT (tb : String → Option Builtin) (p : Program) (w : World) (n₀ : Nat) (ann : Option Value) : Nat → SharedT → Thread → Option SharedT
  | 0, _, _ => none
  | n + 1, s, t => match through t with
    | true => some s
    | false => match stepOk n₀ ann t with
      | false => none
      | true => match stepT (denote tb) p w s t with
        | some (s', t') => topRunT tb p w n₀ ann n s' t'
        | none => none
theorem topRunT_of {tb : String → Option Builtin} {p : Program} {w : World} {n₀ : Nat} {ann : Option Value} : ∀ {n : Nat} {s s' : SharedT} {t : Thread}, topRunT tb p w n₀ ann n s t = some s' → topRun tb p w n₀ ann n s.abs t = some s'.abs
  | 0, _, _, _, h => by cases h
  | n + 1, s, s', t, h => by
    unfold topRunT at h
    unfold topRun
    cases ht : through t with
    | true => rw [ht] at h; cases h; rfl
    | false =>
      rw [ht] at h
      cases hk : stepOk n₀ ann t with
      | false => rw [hk] at h; cases h
      | true =>
        rw [hk] at h
        cases hs : stepT (denote tb) p w s t with
        | none => rw [hs] at h; cases h
        | some r => obtain ⟨s₂, t₂⟩ := r; rw [hs] at h; rw [stepT_spec hs]; exact topRunT_of h
noncomputable def btFill (l : List Obj) (k : Nat) (t : BT) : BT := match l with
  | [] => t
  | o :: r => btFill r (k + 1) (t.ins k o)
noncomputable def btOf (l : List Obj) : BT := btFill l 0 .nil
theorem top_run (w : World) (os : OsState) : topRunT treeTable lawP w 11 (some (.ref 6)) 1737 ⟨btOf (boot_heap w.params).objs.toList, 11, (boot_heap w.params).life, #[], boot_drawn, boot_toks, os⟩ (topStub lawP) =
    some ⟨btOf (hd.top w.params).objs.toList, 345, (hd.top w.params).life, #[], {}, 673, os⟩ := by kernel_rfl
end Mine
end TextTB1
section TextTB2
open PySem PySem.W PyProof.Rows
set_option Elab.async false
set_option maxRecDepth 100000
namespace Mine
noncomputable def hd.view_39 : Program := view lawP [1,2,3,4,5,6,7,8,9,11,12,13,14,15,16,17,18,19,20,21,22,24,25,26,27,28,29,30,31,32,33,34,35,36,37,39,40,41,42,43,44,45,46,47,48,49,50,51]
noncomputable abbrev lawLoose : List Str := [Str.ofString "BasicError"]
noncomputable abbrev lawXt : Shared → Bool := fun s => xlAt hd.view_39 [] s && recOk (RowW.records PySem.Challenge.rw_pc0008_01.row.toRowW) s
noncomputable def lawHook : Hook := kmHook hd.heap_39 lawAs (fun _ => by kernel_rfl) [334, 327]
noncomputable abbrev topEnd (w : World) (os : OsState) : Shared := ⟨hd.top w.params, #[], {}, 673, os⟩
theorem top_size (w : World) : ((boot_heap w.params).isNs mainGlobals && (#[] : Array GenState).size == 0, (boot_heap w.params).objs.size, (boot_heap w.params).nsMap mainGlobals "__annotations__") = (true, 11, some (.ref 6)) := by kernel_rfl
theorem top_abs0 (w : World) (os : OsState) : (SharedT.abs ⟨btOf (boot_heap w.params).objs.toList, 11, (boot_heap w.params).life, #[], boot_drawn, boot_toks, os⟩) = ⟨boot_heap w.params, #[], boot_drawn, boot_toks, os⟩ := by kernel_rfl
theorem top_abs1 (w : World) (os : OsState) : (SharedT.abs ⟨btOf (hd.top w.params).objs.toList, 345, (hd.top w.params).life, #[], {}, 673, os⟩) = topEnd w os := by kernel_rfl
theorem top_runs (w : World) (os : OsState) : topRun treeTable lawP w 11 (some (.ref 6)) 1737 ⟨boot_heap w.params, #[], boot_drawn, boot_toks, os⟩ (topStub lawP) = some (topEnd w os) := by
  rw [← top_abs0, ← top_abs1]; exact topRunT_of (top_run w os)
theorem top_opens : ∀ w : World, (fencedOpening treeTable lawP w 3560).map (fun s => (s.heap, s.gens, s.drawn, s.toks)) = some (boot_heap w.params, #[], boot_drawn, boot_toks) :=
  boot_open (by kernel_rfl) (by decide) (fun _ => by kernel_rfl)
theorem look_a (w : World) (os : OsState) : (staticsOk (importedModules lawP.main.body) (boot_heap w.params) (hd.top w.params) && namesBound lawP (hd.top w.params) && gensDone (topEnd w os) && laidKept (boot_heap w.params) (hd.top w.params)) = true := by kernel_rfl
theorem look_b1 (w : World) (os : OsState) : seen ((recsOf hd.view_39).map (·.name)) (ownsOf hd.view_39) [] { topEnd w os with gens := #[] } = expectedOf hd.view_39 := by kernel_rfl
theorem look_b2 (w : World) (os : OsState) : (topEnd w os).heap.bltView = bltViewBooted := by kernel_rfl
theorem look_b3 (w : World) (os : OsState) : ((topEnd w os).heap.keysOk (looseW hd.view_39 lawLoose) ((recsOf hd.view_39).map (·.name)) ((litsOf hd.view_39).map (·.1)) ((clssOf hd.view_39 (looseW hd.view_39 lawLoose)).map (·.name)) && (topEnd w os).heap.accountedOkI (importedModules lawP.main.body) && (topEnd w os).heap.isNs mainGlobals && (topEnd w os).heap.isNs builtinsNs && tablesOk hd.view_39 (topEnd w os).heap && lawXt (topEnd w os) && (if true then (topEnd w os).gens.size == 0 else !leftWithCleanup (topEnd w os).gens)) = true := by kernel_rfl
theorem look_b4 (w : World) (os : OsState) : tabsOk hd.view_39 (topEnd w os) = true := by kernel_rfl
theorem look_b5 (w : World) (os : OsState) : pinSeenD hd.view_39 (drecsOf hd.view_39) (topEnd w os) = pinGoodD (drecsOf hd.view_39) := by kernel_rfl
theorem look_b6 (w : World) (os : OsState) : plainSeenE hd.view_39 (looseW hd.view_39 lawLoose) (topEnd w os) = plainGoodE hd.view_39 (looseW hd.view_39 lawLoose) := by kernel_rfl
theorem look_b7 (w : World) (os : OsState) : plainSeenD hd.view_39 lawLoose (topEnd w os) = plainGoodD hd.view_39 lawLoose := by kernel_rfl
theorem look_b8 (w : World) (os : OsState) : wideSeen hd.view_39 (topEnd w os) = wideGood hd.view_39 := by kernel_rfl
theorem look_b9 (w : World) (os : OsState) : clsSeenW hd.view_39 lawLoose (topEnd w os) = clsGoodW hd.view_39 lawLoose := by kernel_rfl
theorem look_c (w : World) (os : OsState) : Hook.obs lawHook (topEnd w os) = Hook.val lawHook w := by kernel_rfl
theorem law_left : LeftO lawP hd.view_39 lawLoose lawXt lawHook.obs lawHook.val 3560 true :=
  LeftO.of_pieces (H₀ := boot_heap) (H₁ := hd.top) (gs₀ := #[]) (gs₁ := #[]) (d₀ := boot_drawn) (d₁ := {}) (k₀ := boot_toks) (k₁ := 673) (m₀ := 11) (ann := some (.ref 6)) (M := 1737)
    top_opens top_size top_runs (by decide)
    fun w => funext fun os => looks_pair (look_a w os) (looks_pair
      (looks_pair (look_b1 w os) (looks_pair (look_b2 w os) (looks_pair (look_b3 w os) (looks_pair (look_b4 w os) (looks_pair (look_b5 w os) (looks_pair (look_b6 w os) (looks_pair (look_b7 w os) (looks_pair (look_b8 w os) (look_b9 w os)))))))))
      (look_c w os))
end Mine
end TextTB2
section TextTB3
open PySem PySem.W PySem.Calls PyProof.Rows
set_option Elab.async false
set_option maxRecDepth 100000
namespace Mine
noncomputable abbrev lawRec : DefRec := withDef (x := defNo 51) rfl fun ps b sc => { name := Str.ofString "law", params := ps, body := b, scope := sc, pos := { line := 286, col := 0, endLine := 299, endCol := 15 } }
theorem law_defOf : W.defOf hd.view_39 (Str.ofString "law") = some (lawRec, []) := by kernel_rfl
theorem law_theDef : lawP.theDef (Str.ofString "law") = some (lawRec.params, lawRec.body, lawRec.scope) := by kernel_rfl
set_option maxHeartbeats 4000000 in
theorem law_said : PySem.Challenge.rw_pc0008_01.wellSaid = true := by
  unfold OpenLaw.wellSaid OpenRow.wellSaid OpenRow.partSaid looksOpen
  repeat' (with_reducible refine look_both ?_ ?_)
  all_goals (decide +kernel)
theorem law_hook (w : World) (h : Heap) : lawHook.says w h = (kmHook hd.heap_39 lawAs (fun _ => by kernel_rfl) [334, 327]).says w h := rfl
theorem hd (walk : WalkO hd.view_39 lawLoose (XL hd.view_39 []) (kmHook hd.heap_39 lawAs (fun _ => by kernel_rfl) [334, 327]).says PySem.Challenge.rw_pc0008_01.row.toRowW lawRec [] fun f vs => PySem.call f vs) : PySem.Challenge.rw_pc0008_01.Holds :=
  holds_law law_said fun said =>
  holds_open (q := hd.view_39) (loose := lawLoose) (Xt := lawXt) (XP := XL hd.view_39 []) (Yf := lawHook.obs) (Ya := lawHook.val) (YP := lawHook.says) (N := 3560)
    law_left lawHook.of lawHook.keeps (fun s e => xl_of s (Bool.and_eq_true_iff.mp e).1) XL.keeps
    law_defOf law_theDef (by rfl) (fun s e => recFacts_of (Bool.and_eq_true_iff.mp e).2) (by rfl) said (by decide +kernel) ⟨rfl, rfl, rfl, rfl, rfl, by decide +kernel⟩ ⟨[.list [.int 3, .int 1]], by decide +kernel, by decide +kernel⟩ walk
end Mine
end TextTB3
section TextMA
open PySem PySem.W PySem.Calls PyProof.Rows
set_option Elab.async false
set_option maxRecDepth 100000
namespace Mine
inductive Bi where
  | abs | min | max | repr | isinstance
inductive Ty where
  | int | str | tuple | range
noncomputable def Bi.val : Bi → Value
  | .abs => .builtin "abs"
  | .min => .builtin "min"
  | .max => .builtin "max"
  | .repr => .builtin "repr"
  | .isinstance => .builtin "isinstance"
noncomputable def Ty.val : Ty → Value
  | .int => .type "int"
  | .str => .type "str"
  | .tuple => .type "tuple"
  | .range => .type "range"
/-- abstract values -/
inductive PV where
  | non
  | bool (b : Bool)
  | int (i : Int)
  | str (x : Str)
  | tup (xs : List PV)
  | lst (xs : List PV)
  | box
  | adr (a : Addr)
  | bi (n : Bi)
  | ty (n : Ty)
noncomputable def Keptd (o : Obj) : Prop := ∀ vs, o.data = .fields vs → (o.cls ≠ .none ∧ o.cls ≠ .ref 34 ∧ o.cls ≠ .type "traceback") ∨ ∃ q t, vs[1]? = some (.str q t)
structure Kp (bx : Addr) (h h' : Heap) : Prop where
  up : ∀ b o, h.get? b = some o → b ≠ bx → Keptd o → ∃ sl, h'.get? b = some { o with slots := sl }
  ex : ∀ b o, h.get? b = some o → b ≠ bx → Keptd o → (∀ es n, o.data ≠ .dict es n) → h'.get? b = some o
theorem Keptd.seq {o : Obj} {vs n} (h : o.data = .seq vs n) : Keptd o := fun _ q => by rw [h] at q; cases q
theorem Keptd.dict {o : Obj} {es n} (h : o.data = .dict es n) : Keptd o := fun _ q => by rw [h] at q; cases q
theorem Keptd.cell {o : Obj} {v} (h : o.data = .cell v) : Keptd o := fun _ q => by rw [h] at q; cases q
theorem Keptd.func {o : Obj} {v} (h : o.data = .func v) : Keptd o := fun _ q => by rw [h] at q; cases q
theorem Kp.of_keeps {bx : Addr} {h h' : Heap} (k : ∀ b o, h.get? b = some o → h'.get? b = some o) : Kp bx h h' := ⟨fun b o e _ _ => ⟨o.slots, k b o e⟩, fun b o e _ _ _ => k b o e⟩
theorem Kp.refl (bx : Addr) (h : Heap) : Kp bx h h := .of_keeps fun _ _ e => e
theorem Kp.trans {bx : Addr} {h₁ h₂ h₃ : Heap} (x : Kp bx h₁ h₂) (y : Kp bx h₂ h₃) : Kp bx h₁ h₃ := ⟨fun b o e hb hk =>
  let ⟨_, e₁⟩ := x.up b o e hb hk
  let ⟨sl, e₂⟩ := y.up b _ e₁ hb hk
  ⟨sl, e₂⟩, fun b o e hb hk hd => y.ex b o (x.ex b o e hb hk hd) hb hk hd⟩
/-- a change at one place that the elder heap does not have -/
theorem Kp.same {bx a : Addr} {h₀ h h' : Heap} (x : Kp bx h₀ h) (hs : Heap.SameBut a h h') (ha : h₀.get? a = none) : Kp bx h₀ h' := by
  have ne : ∀ b o, h₀.get? b = some o → b ≠ a := fun b o e q => by rw [q, ha] at e; cases e
  refine ⟨fun b o e hb hk => ?_, fun b o e hb hk hd => (hs.2 b (ne b o e)).trans (x.ex b o e hb hk hd)⟩
  obtain ⟨sl, e₁⟩ := x.up b o e hb hk
  exact ⟨sl, (hs.2 b (ne b o e)).trans e₁⟩
theorem Kp.sameBx {bx : Addr} {h h' : Heap} (hs : Heap.SameBut bx h h') : Kp bx h h' := ⟨fun b o e hb _ => ⟨o.slots, (hs.2 b hb).trans e⟩, fun b o e hb _ _ => (hs.2 b hb).trans e⟩
mutual
noncomputable def Vr (bx : Addr) (h : Heap) : PV → Value → Prop
  | .non, v => v = .none
  | .bool b, v => v = .bool b
  | .int i, v => ∃ t, v = .int i t
  | .str x, v => ∃ t, v = .str x t
  | .tup xs, v => ∃ a o vs n, v = .ref a ∧ a ≠ bx ∧ h.get? a = some o ∧ o.cls = .type "tuple" ∧ o.data = .seq vs n ∧ VrL bx h xs vs.toList
  | .lst xs, v => ∃ a o vs n, v = .ref a ∧ a ≠ bx ∧ h.get? a = some o ∧ o.cls = .type "list" ∧ o.data = .seq vs n ∧ VrL bx h xs vs.toList
  | .box, v => v = .ref bx
  | .adr a, v => v = .ref a
  | .bi n, v => v = n.val
  | .ty n, v => v = n.val
noncomputable def VrL (bx : Addr) (h : Heap) : List PV → List Value → Prop
  | [], vs => vs = []
  | x :: xs, vs => ∃ v r, vs = v :: r ∧ Vr bx h x v ∧ VrL bx h xs r
end
/-- what a value asks to be kept: tuples and lists -/
noncomputable def Ks (bx : Addr) (h h' : Heap) : Prop := ∀ b o vs n, h.get? b = some o → b ≠ bx → o.data = .seq vs n → h'.get? b = some o
theorem Kp.ks {bx : Addr} {h h' : Heap} (k : Kp bx h h') : Ks bx h h' := fun b o vs n e hb hd => k.ex b o e hb (.seq hd) fun es n q => by rw [hd] at q; cases q
mutual
theorem Vr.ks {bx : Addr} {h h' : Heap} (k : Ks bx h h') : ∀ {p : PV} {v : Value}, Vr bx h p v → Vr bx h' p v
  | .non, _, r => by unfold Vr at r ⊢; exact r
  | .bool _, _, r => by unfold Vr at r ⊢; exact r
  | .int _, _, r => by unfold Vr at r ⊢; exact r
  | .str _, _, r => by unfold Vr at r ⊢; exact r
  | .tup xs, _, r => by
    unfold Vr at r ⊢
    obtain ⟨a, o, vs, n, e, hb, ho, hc, hd, hl⟩ := r
    exact ⟨a, _, vs, n, e, hb, k a o vs n ho hb hd, hc, hd, VrL.ks k hl⟩
  | .lst xs, _, r => by
    unfold Vr at r ⊢
    obtain ⟨a, o, vs, n, e, hb, ho, hc, hd, hl⟩ := r
    exact ⟨a, _, vs, n, e, hb, k a o vs n ho hb hd, hc, hd, VrL.ks k hl⟩
  | .box, _, r => by unfold Vr at r ⊢; exact r
  | .adr _, _, r => by unfold Vr at r ⊢; exact r
  | .bi _, _, r => by unfold Vr at r ⊢; exact r
  | .ty _, _, r => by unfold Vr at r ⊢; exact r
theorem VrL.ks {bx : Addr} {h h' : Heap} (k : Ks bx h h') : ∀ {ps : List PV} {vs : List Value}, VrL bx h ps vs → VrL bx h' ps vs
  | [], _, r => by unfold VrL at r ⊢; exact r
  | p :: ps, _, r => by
    unfold VrL at r ⊢
    obtain ⟨v, t, e, r1, r2⟩ := r
    exact ⟨v, t, e, Vr.ks k r1, VrL.ks k r2⟩
end
theorem Vr.mono {bx : Addr} {h h' : Heap} (k : Kp bx h h') {p : PV} {v : Value} (r : Vr bx h p v) : Vr bx h' p v := r.ks k.ks
theorem VrL.mono {bx : Addr} {h h' : Heap} (k : Kp bx h h') {p : List PV} {v : List Value} (r : VrL bx h p v) : VrL bx h' p v := r.ks k.ks
/-- the box's two ints, if the box stands -/
noncomputable abbrev Om := Option (Int × Int)
noncomputable abbrev Store := List (Option PV)
noncomputable def Store.get (ρ : Store) (i : Nat) : Option PV := match ρ[i]? with | some o => o | none => none
structure St where
  w : World
  G : Heap
  bx : Addr
  os : OsState
  p : Program
  loose : List Str
  mean : ExcName → Option Value
  mg : Str → Option Value
  mb : Str → Option Value
noncomputable abbrev qA : Str := "_law_order_right.<locals>.<lambda>"
noncomputable abbrev qB : Str := "_law_pair_right.<locals>.<lambda>"
structure St.Ok (c : St) : Prop where
  X : (hd.heap_39 c.w.params).In c.G
  T : Top c.p c.loose c.mean c.mg c.mb c.G
  hdA : CodeHd c.G 336 334
  hdB : CodeHd c.G 331 327
  nA : c.G.get? 334 = none
  nB : c.G.get? 327 = none
/-- a table of lambdas' codes -/
noncomputable def TabI (h : Heap) (P : Addr) (q : Str) : Prop := ∃ ps : Array Value, h.get? P = some (tabObj ps) ∧ TriplesOk ps.toList ∧ ∀ pos cv, codeAmong pos ps.toList = some cv → (∃ c', cv = .ref c') ∧ h.CodeRec cv q
theorem TabI.keeps {h h' : Heap} {P : Addr} {q : Str} (x : TabI h P q) (k : ∀ b o, h.get? b = some o → h'.get? b = some o) : TabI h' P q :=
  let ⟨ps, e, t, r⟩ := x
  ⟨ps, k _ _ e, t, fun pos cv hc => ⟨(r pos cv hc).1, (r pos cv hc).2.keeps k⟩⟩
noncomputable def BoxAt (G h : Heap) (bx : Addr) (b0 b1 : Int) : Prop := G.get? bx = none ∧ ∃ o n t0 t1, h.get? bx = some o ∧ o.cls = .type "list" ∧ o.data = .seq #[.int b0 t0, .int b1 t1] n
structure Inv (c : St) (ω : Om) (s : Shared) : Prop where
  gens : s.gens = #[]
  os : s.os = c.os
  stays : c.G.StaysIn s.heap
  tabA : TabI s.heap 334 qA
  tabB : TabI s.heap 327 qB
  bxs : ∃ o vs n, s.heap.get? c.bx = some o ∧ o.data = .seq vs n
  box : ∀ b0 b1, ω = some (b0, b1) → BoxAt c.G s.heap c.bx b0 b1
theorem Inv.ext {c : St} {ω : Om} {s : Shared} {h' : Heap} {tk : Nat} (x : Inv c ω s) (k : ∀ b o, s.heap.get? b = some o → h'.get? b = some o) : Inv c ω { s with heap := h', toks := tk } where
  gens := x.gens
  os := x.os
  stays := fun b o e => k b o (x.stays b o e)
  tabA := x.tabA.keeps k
  tabB := x.tabB.keeps k
  bxs := let ⟨o, vs, n, e, d⟩ := x.bxs; ⟨o, vs, n, k _ _ e, d⟩
  box := fun b0 b1 q => let ⟨g, o, n, t0, t1, e, r⟩ := x.box b0 b1 q; ⟨g, o, n, t0, t1, k _ _ e, r⟩
theorem Inv.tok {c : St} {ω : Om} {s : Shared} {tk : Nat} (x : Inv c ω s) : Inv c ω { s with toks := tk } := x.ext fun _ _ e => e
theorem Inv.bxlt {c : St} {ω : Om} {s : Shared} (x : Inv c ω s) : c.bx < s.heap.objs.size := let ⟨_, _, _, e, _⟩ := x.bxs; Heap.lt_size e
theorem Inv.noLimit {c : St} {ω : Om} {s : Shared} (x : Inv c ω s) (O : c.Ok) : s.heap.NoLimit := O.T.nolimit.keeps x.stays
noncomputable def FF (G : Heap) (l : List Env) (h : Heap) : Prop := ∀ e ∈ l, e.scope.kind ≠ .module ∧ ∃ L o es n, e.frame = some L ∧ G.get? L = none ∧ h.get? L = some o ∧ o.data = .dict es n
theorem FF.fun {G : Heap} : ∀ {l : List Env} {h : Heap}, FF G l h → h.FunFrames G l
  | [], _, _ => trivial
  | e :: l, h, x => by
    obtain ⟨k, L, o, es, n, hf, hg, ho, hd⟩ := x e (.head _)
    exact ⟨k, ⟨L, o, hf, hg, ho, fun vs q => by rw [hd] at q; cases q⟩, FF.fun fun e' he => x e' (.tail _ he)⟩
/-- a frame's context -/
structure Cx extends St where
  A : Around
  d : Nat
  cn : Str
  cs : Scope
  L : Addr
  a : Addr
  ccd : Value
  cl : List (Str × Addr)
  outer : List Env
  he : Heap
  vars : List Str
  own : Bool
noncomputable abbrev Cx.env (c : Cx) : Env := envX c.cn c.cs c.L c.a c.ccd c.cl
structure Cx.Ok (c : Cx) : Prop where
  st : c.toSt.Ok
  hand : c.A.handled = none
  frames : c.A.frames = some (c.env :: c.outer)
  guards : c.A.guards = some []
  depth : c.A.depth + c.d < recursionLimit
  units : c.A.units + 20 * c.d < cLine
  kind : c.cs.kind = .function
  above : c.G.objs.size ≤ c.L
  heL : c.he.get? c.L = none
  cells : ∀ x k, c.cl.lookup x = some k → c.G.get? k = none ∧ k ≠ c.L ∧ k ≠ c.bx ∧ (c.own = true → c.he.get? k = none)
  inj : ∀ x y k, c.cl.lookup x = some k → c.cl.lookup y = some k → x = y
  outL : ∀ e ∈ c.outer, e.frame ≠ some c.L
  nodup : c.vars.Nodup
theorem Cx.Ok.newL {c : Cx} (O : c.Ok) : c.G.get? c.L = none := Heap.get?_none_of_le O.above
noncomputable def VarAt (c : Cx) (h : Heap) (x : Str) (v : Value) : Prop :=
  (c.cs.names.lookup x = some .local ∧ ∃ m, h.Ns c.L m ∧ m x = some v) ∨
  ((c.cs.names.lookup x = some .cell ∨ c.cs.names.lookup x = some .free) ∧ ∃ k, c.cl.lookup x = some k ∧ h.IsCell k (some v))
structure FrI (c : Cx) (ρ : Store) (ω : Om) (s : Shared) : Prop where
  inv : Inv c.toSt ω s
  ff : FF c.G c.outer s.heap
  kp : Kp c.bx c.he s.heap
  ns : ∃ m, s.heap.Ns c.L m
  cel : ∀ x k, c.cl.lookup x = some k → ∃ v, s.heap.IsCell k v
  vars : ∀ i pv, ρ.get i = some pv → ∃ x v, c.vars[i]? = some x ∧ VarAt c s.heap x v ∧ Vr c.bx s.heap pv v
theorem Inv.neBx {c : St} {ω : Om} {s : Shared} (x : Inv c ω s) {a : Addr} {o : Obj} (e : s.heap.get? a = some o) (h : ∀ vs n, o.data ≠ .seq vs n) : a ≠ c.bx := fun q => by
  obtain ⟨o', vs, n, e', d⟩ := x.bxs
  rw [q, e'] at e; cases e
  exact h vs n d
theorem FF.step {c : St} {ω : Om} {s : Shared} {l : List Env} {h' : Heap} (i : Inv c ω s) (x : FF c.G l s.heap) (k : Kp c.bx s.heap h') : FF c.G l h' := fun e he => by
  obtain ⟨k1, L, o, es, n, hf, hg, ho, hd⟩ := x e he
  obtain ⟨sl, ho'⟩ := k.up L o ho (i.neBx ho fun vs n q => by rw [hd] at q; cases q) (.dict hd)
  exact ⟨k1, L, _, es, n, hf, hg, ho', hd⟩
theorem Inv.nsStep {c : St} {ω : Om} {s : Shared} {h' : Heap} (i : Inv c ω s) (k : Kp c.bx s.heap h') {L : Addr} {m : Str → Option Value} (hn : s.heap.Ns L m) : h'.Ns L m := by
  obtain ⟨o, es, ep, ho, hd, r⟩ := hn
  obtain ⟨sl, ho'⟩ := k.up L o ho (i.neBx ho fun vs n q => by rw [hd] at q; cases q) (.dict hd)
  exact ⟨_, es, ep, ho', hd, r⟩
theorem Inv.cellStep {c : St} {ω : Om} {s : Shared} {h' : Heap} (i : Inv c ω s) (k : Kp c.bx s.heap h') {a : Addr} {v : Option Value} (hn : s.heap.IsCell a v) : h'.IsCell a v := by
  obtain ⟨o, ho, hd⟩ := hn
  obtain ⟨sl, ho'⟩ := k.up a o ho (i.neBx ho fun vs n q => by rw [hd] at q; cases q) (.cell hd)
  exact ⟨_, ho', hd⟩
theorem VarAt.step {c : Cx} {ω : Om} {s : Shared} {h' : Heap} (i : Inv c.toSt ω s) (k : Kp c.bx s.heap h') {x : Str} {v : Value} (y : VarAt c s.heap x v) : VarAt c h' x v := by
  rcases y with ⟨a, m, b, e⟩ | ⟨a, q, b, e⟩
  · exact .inl ⟨a, m, i.nsStep k b, e⟩
  · exact .inr ⟨a, q, b, i.cellStep k e⟩
theorem FrI.step {c : Cx} {ρ : Store} {ω ω' : Om} {s s' : Shared} (f : FrI c ρ ω s) (i : Inv c.toSt ω' s') (k : Kp c.bx s.heap s'.heap) : FrI c ρ ω' s' where
  inv := i
  ff := f.ff.step f.inv k
  kp := f.kp.trans k
  ns := let ⟨m, h⟩ := f.ns; ⟨m, f.inv.nsStep k h⟩
  cel := fun x a h => let ⟨v, hv⟩ := f.cel x a h; ⟨v, f.inv.cellStep k hv⟩
  vars := fun j pv h => by
    obtain ⟨x, v, e, y, r⟩ := f.vars j pv h
    exact ⟨x, v, e, y.step f.inv k, r.mono k⟩
theorem FrI.ext {c : Cx} {ρ : Store} {ω : Om} {s : Shared} {h' : Heap} {tk : Nat} (f : FrI c ρ ω s) (k : ∀ b o, s.heap.get? b = some o → h'.get? b = some o) : FrI c ρ ω { s with heap := h', toks := tk } := f.step (f.inv.ext k) (.of_keeps k)
theorem FrI.tok {c : Cx} {ρ : Store} {ω : Om} {s : Shared} {tk : Nat} (f : FrI c ρ ω s) : FrI c ρ ω { s with toks := tk } := f.ext fun _ _ e => e
theorem FrI.fr {c : Cx} {ρ : Store} {ω : Om} {s : Shared} (f : FrI c ρ ω s) (O : c.Ok) : ∃ m, Fr c.G c.L s.heap m := let ⟨m, h⟩ := f.ns; ⟨m, h, f.inv.stays, O.above⟩
theorem FrI.news {c : Cx} {ρ : Store} {ω : Om} {s : Shared} (_ : FrI c ρ ω s) : News c.G c.L s.heap [] := News.nil
theorem FrI.ffAll {c : Cx} {ρ : Store} {ω : Om} {s : Shared} (f : FrI c ρ ω s) (O : c.Ok) : FF c.G (c.env :: c.outer) s.heap := fun e he => by
  rcases List.mem_cons.mp he with rfl | he
  · obtain ⟨m, o, es, ep, ho, hd, _⟩ := f.ns
    refine ⟨?_, c.L, o, es, ep, rfl, O.newL, ho, hd⟩
    show c.cs.kind ≠ .module
    rw [O.kind]; decide
  · exact f.ff e he
/-- an exception of ours on its way: its record, its names, its traceback's head -/
noncomputable def ExcB (G : Heap) (l : List Env) (h : Heap) (ea : Addr) (code : Str) (vs : Array Value) : Prop :=
  G.get? ea = none ∧ ∃ oe dx m t, h.get? ea = some oe ∧ oe.cls = .ref 34 ∧ oe.dict = some dx ∧ oe.data = .fields vs ∧ vs.size = 6 ∧ h.Ns dx m ∧ m "code" = some (.str code t)
noncomputable def ExcT (G h : Heap) (ea : Addr) (vs : Array Value) (fl : Value) : Prop :=
  ∃ T oT ts, vs[1]? = some (.ref T) ∧ G.get? T = none ∧ T ≠ ea ∧ h.get? T = some oT ∧ oT.cls = .type "traceback" ∧ oT.data = .fields ts ∧ ts[3]? = some fl ∧ ∀ q t, ts[1]? ≠ some (.str q t)
noncomputable def ExcAt (G : Heap) (l : List Env) (h : Heap) (ea : Addr) (code : Str) : Prop := ∃ vs, ExcB G l h ea code vs ∧ (vs[1]? = some .none ∨ ExcT G h ea vs .none)
noncomputable def ExcF (G : Heap) (l : List Env) (h : Heap) (ea : Addr) (code : Str) (L : Addr) : Prop := ∃ vs, ExcB G l h ea code vs ∧ ExcT G h ea vs (rawInt L)
/-- the judgement: a tree, from a frame's state, ends in K or raises into X -/
noncomputable def Sg {α β : Type} (c : Cx) (Rl : Heap → β → α → Prop) (t : Sem α) (ρ : Store) (ω : Om) (K : β → Om → Prop) (X : Str → Om → Prop) : Prop :=
  ∀ s (Q : α → Shared → Prop) (E : Value → Shared → Prop), FrI c ρ ω s →
    (∀ b a ω' s', K b ω' → Inv c.toSt ω' s' → Kp c.bx s.heap s'.heap → Rl s'.heap b a → Q a s') →
    (∀ code ea ω' s', X code ω' → Inv c.toSt ω' s' → Kp c.bx s.heap s'.heap → ExcAt c.G (c.env :: c.outer) s'.heap ea code → E (.ref ea) s') →
    wpAny (model PySem.Challenge.rw_pc0008_01.row.prog c.w) c.A t Q E s
noncomputable abbrev SV (c : Cx) (t : Sem Value) := Sg c (Vr c.bx) t
noncomputable abbrev SE (c : Cx) (e : Expr) := Sg c (Vr c.bx) (eval e c.env)
noncomputable abbrev SL (c : Cx) (t : Sem (List Value)) := Sg c (VrL c.bx) t
noncomputable abbrev ST (c : Cx) (t : Sem Bool) := Sg c (fun _ (b b' : Bool) => b = b') t
theorem Sg.mono {α β : Type} {c : Cx} {Rl : Heap → β → α → Prop} {t : Sem α} {ρ : Store} {ω : Om} {K K' : β → Om → Prop} {X X' : Str → Om → Prop} (h : Sg c Rl t ρ ω K X)
    (hK : ∀ b o, K b o → K' b o) (hX : ∀ b o, X b o → X' b o) : Sg c Rl t ρ ω K' X' :=
  fun s Q E f hQ hE => h s Q E f (fun b a ω' s' k => hQ b a ω' s' (hK _ _ k)) fun code ea ω' s' x => hE code ea ω' s' (hX _ _ x)
end Mine
end TextMA
section TextME
open PySem PySem.W PySem.Calls PyProof.Rows
set_option Elab.async false
set_option maxRecDepth 100000
namespace Mine
noncomputable abbrev PRG : Program := PySem.Challenge.rw_pc0008_01.row.prog
section
variable {c : Cx} {ρ : Store} {ω : Om} {K : PV → Om → Prop} {X : Str → Om → Prop}
theorem SE_int {i : Int} {k : Nat} {pos : Pos} (h : K (.int i) ω) : SE c (.Constant (.int i) k pos) ρ ω K X :=
  fun s _ _ f hQ _ => wpAny_Constant_int (hQ _ _ ω _ h f.inv.tok (.refl _ _) (by unfold Vr; exact ⟨_, rfl⟩))
theorem SE_str {x : Str} {k : Nat} {pos : Pos} (h : K (.str x) ω) : SE c (.Constant (.str x) k pos) ρ ω K X :=
  fun s _ _ f hQ _ => wpAny_Constant_str (hQ _ _ ω _ h f.inv.tok (.refl _ _) (by unfold Vr; exact ⟨_, rfl⟩))
theorem SE_bool {b : Bool} {k : Nat} {pos : Pos} (h : K (.bool b) ω) : SE c (.Constant (.bool b) k pos) ρ ω K X :=
  fun s _ _ f hQ _ => wpAny_Constant_bool (hQ _ _ ω _ h f.inv (.refl _ _) (by unfold Vr; rfl))
theorem SE_none {k : Nat} {pos : Pos} (h : K .non ω) : SE c (.Constant .none k pos) ρ ω K X :=
  fun s _ _ f hQ _ => wpAny_Constant_none (hQ _ _ ω _ h f.inv (.refl _ _) (by unfold Vr; rfl))
noncomputable def plainName (x : Str) : Bool := !(x == ("__debug__" : Str)) && !(x == ("__classdict__" : Str)) && !(x == ("__name__" : Str))
theorem loadVar (O : c.Ok) {s : Shared} {x : Str} {v : Value} (y : VarAt c s.heap x v) (hn : plainName x = true) {Q : Value → Shared → Prop} {E : Value → Shared → Prop} (h : Q v s) :
    wpAny (model PRG c.w) c.A (loadName c.env x) Q E s := by
  simp only [plainName, Bool.and_eq_true, Bool.not_eq_true'] at hn
  rcases y with ⟨a, m, b, e⟩ | ⟨a | a, q, b, e⟩
  · exact wpAny_loadName_local O.kind a b e h
  · exact wpAny_loadName_cell O.kind a b e h
  · exact wpAny_loadName_free O.kind a b e h hn.1.2
theorem SE_var (O : c.Ok) {i : Nat} {x : Str} {pos : Pos} {pv : PV} (hx : c.vars[i]? = some x) (hn : plainName x = true) (hg : ρ.get i = some pv) (h : K pv ω) : SE c (.Name x pos) ρ ω K X := fun s _ _ f hQ _ => by
  obtain ⟨x', v, e, y, r⟩ := f.vars i pv hg
  rw [hx] at e; cases e
  have hn' := hn
  simp only [plainName, Bool.and_eq_true, Bool.not_eq_true'] at hn'
  exact wpAny_Name (loadVar O y hn (hQ _ _ ω _ h f.inv (.refl _ _) r)) hn'.1.1
theorem SE_glob (O : c.Ok) {x : Str} {pos : Pos} {pv : PV} {v : Value} (e : nsIn (hd.heap_39 c.w.params) mainGlobals x = some (some v)) (hx : c.cs.names.lookup x = some .globalImplicit) (hn : plainName x = true)
    (hr : ∀ bx h, Vr bx h pv v) (h : K pv ω) : SE c (.Name x pos) ρ ω K X := fun s _ _ f hQ _ => by
  obtain ⟨m, F⟩ := f.fr O
  simp only [plainName, Bool.and_eq_true, Bool.not_eq_true'] at hn
  exact nameX_K F O.st.X (topRead_of O.st.T) e (hQ _ _ ω _ h f.inv (.refl _ _) (hr _ _)) O.kind hx hn.1.1
theorem SE_bi (O : c.Ok) {x : Str} {pos : Pos} {pv : PV} {v : Value} (e : nsIn (hd.heap_39 c.w.params) mainGlobals x = some none) (hv : bootBuiltins x = some v) (hx : c.cs.names.lookup x = some .globalImplicit) (hn : plainName x = true)
    (hr : ∀ bx h, Vr bx h pv v) (h : K pv ω) : SE c (.Name x pos) ρ ω K X := fun s _ _ f hQ _ => by
  obtain ⟨m, F⟩ := f.fr O
  simp only [plainName, Bool.and_eq_true, Bool.not_eq_true', beq_eq_false_iff_ne] at hn
  exact nameX_B F O.st.X (topRead_of O.st.T) e hv hn.2 (hQ _ _ ω _ h f.inv (.refl _ _) (hr _ _)) O.kind hx (by simp [hn.1.1])
/-- a binary operator of ints -/
noncomputable def BopI : Operator → Int → Int → (PV → Prop) → Prop
  | .Add, a, b, K => K (.int (a + b))
  | .Sub, a, b, K => K (.int (a - b))
  | .Mult, a, b, K => IntMulOk a b ∧ K (.int (a * b))
  | .FloorDiv, a, b, K => b ≠ 0 ∧ b.natAbs.log2 < 9000 ∧ K (.int (a.fdiv b))
  | .Mod, a, b, K => b ≠ 0 ∧ K (.int (a.fmod b))
  | .Pow, a, b, K => 0 ≤ b ∧ (Builtin.Int.intBits a : Int) * b ≤ 2 ^ 27 ∧ K (.int (a ^ b.toNat))
  | .LShift, a, b, K => 0 ≤ b ∧ (Builtin.Int.intBits a : Int) + b ≤ 2 ^ 27 ∧ K (.int (a * 2 ^ b.toNat))
  | .BitAnd, a, b, K => K (.int (Builtin.bitAnd a b))
  | .BitOr, a, b, K => K (.int (Builtin.bitOr a b))
  | .BitXor, a, b, K => K (.int (Builtin.bitXor a b))
  | _, _, _, _ => False
noncomputable def PV.asI : PV → (Int → Prop) → Prop
  | .int i, K => K i
  | _, _ => False
noncomputable def PV.asS : PV → (Str → Prop) → Prop
  | .str i, K => K i
  | _, _ => False
noncomputable def PV.asB : PV → (Bool → Prop) → Prop
  | .bool i, K => K i
  | _, _ => False
theorem asI_inv {p : PV} {K : Int → Prop} (h : p.asI K) : ∃ i, p = .int i ∧ K i := by
  cases p <;> first | exact (h : False).elim | exact ⟨_, rfl, h⟩
theorem asS_inv {p : PV} {K : Str → Prop} (h : p.asS K) : ∃ i, p = .str i ∧ K i := by
  cases p <;> first | exact (h : False).elim | exact ⟨_, rfl, h⟩
theorem asB_inv {p : PV} {K : Bool → Prop} (h : p.asB K) : ∃ i, p = .bool i ∧ K i := by
  cases p <;> first | exact (h : False).elim | exact ⟨_, rfl, h⟩
/-- a binary operator -/
noncomputable def Bop (op : Operator) (p q : PV) (K : PV → Prop) : Prop := match p with
  | .int a => q.asI fun b => BopI op a b K
  | .bool a => q.asB fun b => op = .Sub ∧ K (.int (b2i a - b2i b))
  | _ => False
theorem Bop_inv {op : Operator} {p q : PV} {K : PV → Prop} (h : Bop op p q K) : (∃ a b, p = .int a ∧ q = .int b ∧ BopI op a b K) ∨ ∃ a b, p = .bool a ∧ q = .bool b ∧ op = .Sub ∧ K (.int (b2i a - b2i b)) := by
  cases p <;> first
    | exact (h : False).elim
    | (obtain ⟨b, rfl, e⟩ := asI_inv h; exact .inl ⟨_, b, rfl, rfl, e⟩)
    | (obtain ⟨b, rfl, e⟩ := asB_inv h; exact .inr ⟨_, b, rfl, rfl, e⟩)
theorem vr_int {bx h v i} : Vr bx h (.int i) v ↔ ∃ t, v = .int i t := by unfold Vr; exact Iff.rfl
theorem vr_str {bx h v i} : Vr bx h (.str i) v ↔ ∃ t, v = .str i t := by unfold Vr; exact Iff.rfl
theorem vr_bool {bx h v i} : Vr bx h (.bool i) v ↔ v = .bool i := by unfold Vr; exact Iff.rfl
theorem vr_int' {bx h i t} : Vr bx h (.int i) (.int i t) := by unfold Vr; exact ⟨_, rfl⟩
theorem vr_str' {bx h i t} : Vr bx h (.str i) (.str i t) := by unfold Vr; exact ⟨_, rfl⟩
theorem vr_bool' {bx h i} : Vr bx h (.bool i) (.bool i) := by unfold Vr; rfl
section
variable {s : Shared} {Q : Value → Shared → Prop} {E : Value → Shared → Prop} {a b : PV} {v u : Value}
theorem BopI_sound {op : Operator} {K : PV → Prop} {a b : Int} {t t' : Nat} (hB : BopI op a b K)
    (hQ : ∀ pv w tk, K pv → (∀ h, Vr c.bx h pv w) → Q w { s with toks := tk }) : wpAny (model PRG c.w) c.A (binaryOp op (.int a t) (.int b t')) Q E s := by
  have hq : ∀ i, K (.int i) → ∀ u tk, Q (.int i u) { s with toks := tk } := fun i h u tk => hQ _ _ _ h fun _ => vr_int'
  clear hQ
  cases op with
  | Add => exact add_int (hq _ hB _ _)
  | Sub => exact PyProof.Rows.sub_int (hq _ hB _ _)
  | Mult => exact mul_int (hq _ (And.right hB) _ _) (And.left hB)
  | FloorDiv => exact floordiv_int (And.left hB) (hq _ (And.right (And.right hB)) _ _) (.inl (PyProof.noPylong_of_log2 (And.left (And.right hB))))
  | Mod => exact PyProof.Rows.mod_int (And.left hB) (hq _ (And.right hB) _ _)
  | Pow => exact pow_int (And.left hB) (And.left (And.right hB)) (hq _ (And.right (And.right hB)) _ _)
  | LShift => exact lshift_int (And.left hB) (And.left (And.right hB)) (hq _ (And.right (And.right hB)) _ _)
  | BitAnd => exact and_int (hq _ hB _ _)
  | BitOr => exact or_int (hq _ hB _ _)
  | BitXor => exact xor_int (hq _ hB _ _)
  | _ => exact (hB : False).elim
theorem Bop_sound {op : Operator} {K : PV → Prop} (hB : Bop op a b K) (ra : Vr c.bx s.heap a v) (rb : Vr c.bx s.heap b u)
    (hQ : ∀ pv w tk, K pv → (∀ h, Vr c.bx h pv w) → Q w { s with toks := tk }) : wpAny (model PRG c.w) c.A (binaryOp op v u) Q E s := by
  rcases Bop_inv hB with ⟨x, y, rfl, rfl, e⟩ | ⟨x, y, rfl, rfl, rfl, e⟩
  · obtain ⟨t, rfl⟩ := vr_int.mp ra; obtain ⟨t', rfl⟩ := vr_int.mp rb
    exact BopI_sound e hQ
  · obtain rfl := vr_bool.mp ra; obtain rfl := vr_bool.mp rb
    exact sub_bool (hQ _ _ _ e fun _ => vr_int')
/-- an operator in place -/
noncomputable def IopI : Operator → Int → Int → (PV → Prop) → Prop
  | .Add, a, b, K => K (.int (a + b))
  | .Mult, a, b, K => IntMulOk a b ∧ K (.int (a * b))
  | _, _, _, _ => False
noncomputable def Iop (op : Operator) (p q : PV) (K : PV → Prop) : Prop := p.asI fun a => q.asI fun b => IopI op a b K
theorem Iop_sound {op : Operator} {K : PV → Prop} (hB : Iop op a b K) (ra : Vr c.bx s.heap a v) (rb : Vr c.bx s.heap b u)
    (hQ : ∀ pv w tk, K pv → (∀ h, Vr c.bx h pv w) → Q w { s with toks := tk }) : wpAny (model PRG c.w) c.A (inplaceOp op v u) Q E s := by
  obtain ⟨x, rfl, e⟩ := asI_inv hB
  obtain ⟨y, rfl, e⟩ := asI_inv e
  obtain ⟨t, rfl⟩ := vr_int.mp ra; obtain ⟨t', rfl⟩ := vr_int.mp rb
  cases op with
  | Add => exact PyProof.Rows.iadd_int (hQ _ _ _ e fun _ => vr_int')
  | Mult => exact imul_int (hQ _ _ _ (And.right e) fun _ => vr_int') (And.left e)
  | _ => exact (e : False).elim
/-- a comparison -/
noncomputable def CopI : CmpOp → Int → Int → (Bool → Prop) → Prop
  | .Lt, a, b, K => K (decide (a < b))
  | .LtE, a, b, K => K (decide (a ≤ b))
  | .Gt, a, b, K => K (decide (b < a))
  | .GtE, a, b, K => K (decide (b ≤ a))
  | .Eq, a, b, K => K (decide (a = b))
  | .NotEq, a, b, K => K (!decide (a = b))
  | _, _, _, _ => False
noncomputable def CopS : CmpOp → Str → Str → (Bool → Prop) → Prop
  | .Eq, a, b, K => K (decide (a = b))
  | .NotEq, a, b, K => K (!decide (a = b))
  | .Lt, a, b, K => K (decide (a.cps.toList < b.cps.toList))
  | .Gt, a, b, K => K (decide (b.cps.toList < a.cps.toList))
  | _, _, _, _ => False
noncomputable def CopB : CmpOp → Bool → Bool → (Bool → Prop) → Prop
  | .Eq, a, b, K => K (a == b)
  | .NotEq, a, b, K => K (a != b)
  | _, _, _, _ => False
noncomputable def Cop (op : CmpOp) (p q : PV) (K : Bool → Prop) : Prop := match p with
  | .int a => q.asI fun b => CopI op a b K
  | .str a => q.asS fun b => CopS op a b K
  | .bool a => q.asB fun b => CopB op a b K
  | _ => False
theorem Cop_inv {op : CmpOp} {p q : PV} {K : Bool → Prop} (h : Cop op p q K) : (∃ a b, p = .int a ∧ q = .int b ∧ CopI op a b K) ∨ (∃ a b, p = .str a ∧ q = .str b ∧ CopS op a b K) ∨ ∃ a b, p = .bool a ∧ q = .bool b ∧ CopB op a b K := by
  cases p <;> first
    | exact (h : False).elim
    | (obtain ⟨b, rfl, e⟩ := asI_inv h; exact .inl ⟨_, b, rfl, rfl, e⟩)
    | (obtain ⟨b, rfl, e⟩ := asS_inv h; exact .inr (.inl ⟨_, b, rfl, rfl, e⟩))
    | (obtain ⟨b, rfl, e⟩ := asB_inv h; exact .inr (.inr ⟨_, b, rfl, rfl, e⟩))
theorem Cop_sound {op : CmpOp} {K : Bool → Prop} (hB : Cop op a b K) (ra : Vr c.bx s.heap a v) (rb : Vr c.bx s.heap b u)
    (hQ : ∀ b, K b → Q (.bool b) s) : wpAny (model PRG c.w) c.A (compareOp op v u) Q E s := by
  rcases Cop_inv hB with ⟨x, y, rfl, rfl, e⟩ | ⟨x, y, rfl, rfl, e⟩ | ⟨x, y, rfl, rfl, e⟩
  · obtain ⟨t, rfl⟩ := vr_int.mp ra; obtain ⟨t', rfl⟩ := vr_int.mp rb
    clear ra rb hB
    cases op with
    | Lt => exact PyProof.Rows.lt_int (hQ _ e)
    | LtE => exact PyProof.Rows.le_int (hQ _ e)
    | Gt => exact PyProof.Rows.gt_int (hQ _ e)
    | GtE => exact PyProof.Rows.ge_int (hQ _ e)
    | Eq => exact PyProof.Rows.eq_int (hQ _ e)
    | NotEq => exact PyProof.Rows.ne_int (hQ _ e)
    | _ => exact (e : False).elim
  · obtain ⟨t, rfl⟩ := vr_str.mp ra; obtain ⟨t', rfl⟩ := vr_str.mp rb
    clear ra rb hB
    cases op with
    | Eq => exact PyProof.Rows.eq_str (hQ _ ((Bool.beq_eq_decide_eq x y).symm ▸ e))
    | NotEq => exact PyProof.Rows.ne_str (hQ _ (show K (!(x == y)) from (Bool.beq_eq_decide_eq x y).symm ▸ e))
    | Lt => exact PyProof.Rows.lt_str (hQ _ e)
    | Gt => exact PySem.P.gt_str (hQ _ e)
    | _ => exact (e : False).elim
  · obtain rfl := vr_bool.mp ra; obtain rfl := vr_bool.mp rb
    clear hB
    cases op with
    | Eq => exact eq_bool (hQ _ e)
    | NotEq => exact ne_bool (hQ _ e)
    | _ => exact (e : False).elim
end
end
end Mine
end TextME
section TextMF
open PySem PySem.W PySem.Calls PyProof.Rows
set_option Elab.async false
set_option linter.unusedVariables false
set_option maxRecDepth 100000
namespace Mine
/-- a branch -/
noncomputable def Br (t : Bool) (P P' : Prop) : Prop := (t = true → P) ∧ (t = false → P')
section
variable {c : Cx} {ρ : Store} {ω : Om} {K : PV → Om → Prop} {X : Str → Om → Prop} {KB : Bool → Om → Prop} {KL : List PV → Om → Prop}
theorem SE_bin {l r : Expr} {op : Operator} {pos : Pos} (h : SE c l ρ ω (fun a ω1 => SE c r ρ ω1 (fun b ω2 => Bop op a b fun v => K v ω2) X) X) : SE c (.BinOp l op r pos) ρ ω K X := fun s Q E f hQ hE =>
  wpAny_BinOp (h s _ _ f (fun _ _ ω1 s1 hK i1 k1 r1 => hK s1 _ _ (f.step i1 k1) (fun _ _ ω2 s2 hB i2 k2 r2 =>
    Bop_sound hB (r1.mono k2) r2 fun pv w tk hv hr => hQ pv w ω2 _ hv i2.tok (k1.trans k2) (hr _))
    fun code ea ω' s' x i k e => hE code ea ω' s' x i (k1.trans k) e) hE)
theorem SE_cmp {l r : Expr} {op : CmpOp} {pos : Pos} (hm : behindInMarks op r = false) (h : SE c l ρ ω (fun a ω1 => SE c r ρ ω1 (fun b ω2 => Cop op a b fun t => K (.bool t) ω2) X) X) :
    SE c (.Compare l [op] [r] pos) ρ ω K X := fun s Q E f hQ hE =>
  wpAny_Compare1 (h s _ _ f (fun _ _ ω1 s1 hK i1 k1 r1 => hK s1 _ _ (f.step i1 k1) (fun _ _ ω2 s2 hB i2 k2 r2 =>
    Cop_sound hB (r1.mono k2) r2 fun t ht => hQ _ _ ω2 _ ht i2 (k1.trans k2) vr_bool')
    fun code ea ω' s' x i k e => hE code ea ω' s' x i (k1.trans k) e) hE) hm
theorem ST_cmp {l r : Expr} {op : CmpOp} {pos : Pos} {wh : Sem Value} (hm : behindInMarks op r = false) (h : SE c l ρ ω (fun a ω1 => SE c r ρ ω1 (fun b ω2 => Cop op a b fun t => KB t ω2) X) X) :
    ST c (isTrue (.Compare l [op] [r] pos) c.env wh) ρ ω KB X := fun s Q E f hQ hE =>
  wpAny_isTrue_Compare1 (h s _ _ f (fun _ _ ω1 s1 hK i1 k1 r1 => hK s1 _ _ (f.step i1 k1) (fun _ _ ω2 s2 hB i2 k2 r2 =>
    Cop_sound hB (r1.mono k2) r2 fun t ht => wpAny_truthy_bool (hQ t t ω2 _ ht i2 (k1.trans k2) rfl))
    fun code ea ω' s' x i k e => hE code ea ω' s' x i (k1.trans k) e) hE) hm
theorem SE_chain {l r₁ r₂ : Expr} {o₁ o₂ : CmpOp} {pos : Pos} (hm : behindInMarks o₂ r₂ = false)
    (h : SE c l ρ ω (fun a ω1 => SE c r₁ ρ ω1 (fun b ω2 => Cop o₁ a b fun t => Br t (SE c r₂ ρ ω2 (fun d ω3 => Cop o₂ b d fun t => K (.bool t) ω3) X) (K (.bool false) ω2)) X) X) :
    SE c (.Compare l [o₁, o₂] [r₁, r₂] pos) ρ ω K X := fun s Q E f hQ hE =>
  Compare_chain (h s _ _ f (fun _ _ ω1 s1 hK i1 k1 r1 => chain_link (hK s1 _ _ (f.step i1 k1) (fun _ _ ω2 s2 hB i2 k2 r2 =>
    Cop_sound hB (r1.mono k2) r2 fun t ht => wpAny_truthy_bool (by
      cases t with
      | false => exact hQ _ _ ω2 _ (ht.2 rfl) i2 (k1.trans k2) vr_bool'
      | true => exact chain_last (ht.1 rfl s2 _ _ ((f.step i1 k1).step i2 k2) (fun _ _ ω3 s3 hC i3 k3 r3 => Cop_sound hC (r2.mono k3) r3 fun t ht => hQ _ _ ω3 _ ht i3 ((k1.trans k2).trans k3) vr_bool')
          fun code ea ω' s' x i k e => hE code ea ω' s' x i ((k1.trans k2).trans k) e)))
    fun code ea ω' s' x i k e => hE code ea ω' s' x i (k1.trans k) e)) hE) (by show behindInMarks o₂ r₂ = false; exact hm)
theorem ST_chain {l r₁ r₂ : Expr} {o₁ o₂ : CmpOp} {pos : Pos} {wh : Sem Value} (hm : behindInMarks o₂ r₂ = false)
    (h : SE c l ρ ω (fun a ω1 => SE c r₁ ρ ω1 (fun b ω2 => Cop o₁ a b fun t => Br t (SE c r₂ ρ ω2 (fun d ω3 => Cop o₂ b d fun t => KB t ω3) X) (KB false ω2)) X) X) :
    ST c (isTrue (.Compare l [o₁, o₂] [r₁, r₂] pos) c.env wh) ρ ω KB X := fun s Q E f hQ hE =>
  isTrue_chain (h s _ _ f (fun _ _ ω1 s1 hK i1 k1 r1 => test_link (hK s1 _ _ (f.step i1 k1) (fun _ _ ω2 s2 hB i2 k2 r2 =>
    Cop_sound hB (r1.mono k2) r2 fun t ht => wpAny_truthy_bool (by
      cases t with
      | false => exact hQ _ _ ω2 _ (ht.2 rfl) i2 (k1.trans k2) rfl
      | true => exact test_last (ht.1 rfl s2 _ _ ((f.step i1 k1).step i2 k2) (fun _ _ ω3 s3 hC i3 k3 r3 => Cop_sound hC (r2.mono k3) r3 fun t ht => wpAny_truthy_bool (hQ t t ω3 _ ht i3 ((k1.trans k2).trans k3) rfl))
          fun code ea ω' s' x i k e => hE code ea ω' s' x i ((k1.trans k2).trans k) e)))
    fun code ea ω' s' x i k e => hE code ea ω' s' x i (k1.trans k) e)) hE) (by show behindInMarks o₂ r₂ = false; exact hm)
theorem ST_val {e : Expr} (he : ∀ wh, isTrue e c.env wh = (do let v ← wh; standAt e.pos; holding [v] (truthy v))) (h : SE c e ρ ω (fun v ω1 => ∃ t, v = .bool t ∧ KB t ω1) X) :
    ST c (isTrue e c.env (eval e c.env)) ρ ω KB X := fun s Q E f hQ hE =>
  wpAny_isTrue_value (h s _ _ f (fun pv v ω1 s1 hK i1 k1 r1 => by
    obtain ⟨t, rfl, ht⟩ := hK
    obtain rfl := vr_bool.mp r1
    exact wpAny_truthy_bool (hQ t t ω1 _ ht i1 k1 rfl)) hE) (he _)
theorem ST_not {e : Expr} {pos : Pos} {wh : Sem Value} (h : ST c (isTrue e c.env (eval e c.env)) ρ ω (fun t ω1 => KB (!t) ω1) X) : ST c (isTrue (.UnaryOp .Not e pos) c.env wh) ρ ω KB X := fun s Q E f hQ hE =>
  wpAny_isTrue_Not (h s _ _ f (fun t t' ω1 s1 hK i1 k1 r1 => by obtain rfl := r1; exact hQ _ _ ω1 _ hK i1 k1 rfl) hE)
theorem ST_and {x y : Expr} {pos : Pos} {wh : Sem Value} (h : ST c (isTrue x c.env (eval x c.env)) ρ ω (fun t ω1 => Br t (ST c (isTrue y c.env (eval y c.env)) ρ ω1 KB X) (KB false ω1)) X) :
    ST c (isTrue (.BoolOp .And [x, y] pos) c.env wh) ρ ω KB X := fun s Q E f hQ hE =>
  wpAny_isTrue_BoolOp (wpAny_allTrue_And_cons (h s _ _ f (fun t t' ω1 s1 hK i1 k1 r1 => by
    obtain rfl := r1
    cases t with
    | false => exact hQ _ _ ω1 _ (hK.2 rfl) i1 k1 rfl
    | true => exact wpAny_allTrue_And_cons (hK.1 rfl s1 _ _ (f.step i1 k1) (fun t t' ω2 s2 hK i2 k2 r2 => by
        obtain rfl := r2
        cases t with
        | false => exact hQ _ _ ω2 _ hK i2 (k1.trans k2) rfl
        | true => exact wpAny_allTrue_And_nil (hQ _ _ ω2 _ hK i2 (k1.trans k2) rfl))
        fun code ea ω' s' x i k e => hE code ea ω' s' x i (k1.trans k) e)) hE))
theorem ST_or {x y : Expr} {pos : Pos} {wh : Sem Value} (h : ST c (isTrue x c.env (eval x c.env)) ρ ω (fun t ω1 => Br t (KB true ω1) (ST c (isTrue y c.env (eval y c.env)) ρ ω1 KB X)) X) :
    ST c (isTrue (.BoolOp .Or [x, y] pos) c.env wh) ρ ω KB X := fun s Q E f hQ hE =>
  wpAny_isTrue_BoolOp (wpAny_allTrue_Or_cons (h s _ _ f (fun t t' ω1 s1 hK i1 k1 r1 => by
    obtain rfl := r1
    cases t with
    | true => exact hQ _ _ ω1 _ (hK.1 rfl) i1 k1 rfl
    | false => exact wpAny_allTrue_Or_cons (hK.2 rfl s1 _ _ (f.step i1 k1) (fun t t' ω2 s2 hK i2 k2 r2 => by
        obtain rfl := r2
        cases t with
        | true => exact hQ _ _ ω2 _ hK i2 (k1.trans k2) rfl
        | false => exact wpAny_allTrue_Or_nil (hQ _ _ ω2 _ hK i2 (k1.trans k2) rfl))
        fun code ea ω' s' x i k e => hE code ea ω' s' x i (k1.trans k) e)) hE))
theorem SE_and {x y : Expr} {pos : Pos} (h : SE c x ρ ω (fun v ω1 => ∃ t, v = .bool t ∧ Br t (SE c y ρ ω1 K X) (K (.bool false) ω1)) X) : SE c (.BoolOp .And [x, y] pos) ρ ω K X := fun s Q E f hQ hE =>
  wpAny_And2 (h s _ _ f (fun pv v ω1 s1 hK i1 k1 r1 => by
    obtain ⟨t, rfl, ht⟩ := hK
    obtain rfl := vr_bool.mp r1
    refine wpAny_truthy_bool ?_
    cases t with
    | false => exact hQ _ _ ω1 _ (ht.2 rfl) i1 k1 vr_bool'
    | true => exact ht.1 rfl s1 _ _ (f.step i1 k1) (fun pv v ω2 s2 hK i2 k2 r2 => hQ _ _ ω2 _ hK i2 (k1.trans k2) r2) fun code ea ω' s' x i k e => hE code ea ω' s' x i (k1.trans k) e) hE)
theorem SE_or {x y : Expr} {pos : Pos} (h : SE c x ρ ω (fun v ω1 => ∃ t, v = .bool t ∧ Br t (K (.bool true) ω1) (SE c y ρ ω1 K X)) X) : SE c (.BoolOp .Or [x, y] pos) ρ ω K X := fun s Q E f hQ hE =>
  wpAny_Or2 (h s _ _ f (fun pv v ω1 s1 hK i1 k1 r1 => by
    obtain ⟨t, rfl, ht⟩ := hK
    obtain rfl := vr_bool.mp r1
    refine wpAny_truthy_bool ?_
    cases t with
    | true => exact hQ _ _ ω1 _ (ht.1 rfl) i1 k1 vr_bool'
    | false => exact ht.2 rfl s1 _ _ (f.step i1 k1) (fun pv v ω2 s2 hK i2 k2 r2 => hQ _ _ ω2 _ hK i2 (k1.trans k2) r2) fun code ea ω' s' x i k e => hE code ea ω' s' x i (k1.trans k) e) hE)
theorem SE_ite {t x y : Expr} {pos : Pos} (h : ST c (isTrue t c.env (eval t c.env)) ρ ω (fun t ω1 => Br t (SE c x ρ ω1 K X) (SE c y ρ ω1 K X)) X) : SE c (.IfExp t x y pos) ρ ω K X := fun s Q E f hQ hE =>
  wpAny_IfExp (h s _ _ f (fun t t' ω1 s1 hK i1 k1 r1 => by
    obtain rfl := r1
    cases t with
    | true => exact hK.1 rfl s1 _ _ (f.step i1 k1) (fun pv v ω2 s2 hK i2 k2 r2 => hQ _ _ ω2 _ hK i2 (k1.trans k2) r2) fun code ea ω' s' x i k e => hE code ea ω' s' x i (k1.trans k) e
    | false => exact hK.2 rfl s1 _ _ (f.step i1 k1) (fun pv v ω2 s2 hK i2 k2 r2 => hQ _ _ ω2 _ hK i2 (k1.trans k2) r2) fun code ea ω' s' x i k e => hE code ea ω' s' x i (k1.trans k) e) hE)
theorem SE_neg {x : Expr} {pos : Pos} (h : SE c x ρ ω (fun v ω1 => ∃ i, v = .int i ∧ K (.int (-i)) ω1) X) : SE c (.UnaryOp .USub x pos) ρ ω K X := fun s Q E f hQ hE =>
  wpAny_UnaryOp (h s _ _ f (fun pv v ω1 s1 hK i1 k1 r1 => by
    obtain ⟨i, rfl, hi⟩ := hK
    obtain ⟨t, rfl⟩ := vr_int.mp r1
    exact PyProof.Rows.neg_int (hQ _ _ ω1 _ hi i1.tok k1 vr_int')) hE)
theorem SE_not {x : Expr} {pos : Pos} (h : SE c x ρ ω (fun v ω1 => ∃ t, v = .bool t ∧ K (.bool !t) ω1) X) : SE c (.UnaryOp .Not x pos) ρ ω K X := fun s Q E f hQ hE =>
  wpAny_UnaryOp (h s _ _ f (fun pv v ω1 s1 hK i1 k1 r1 => by
    obtain ⟨i, rfl, hi⟩ := hK
    obtain rfl := vr_bool.mp r1
    exact not_value (wpAny_truthy_bool (hQ _ _ ω1 _ hi i1 k1 vr_bool'))) hE)
noncomputable def notStar : Expr → Bool
  | .Starred .. => false
  | _ => true
theorem starEach_cons {e : Expr} {rest : List Expr} {env : Env} (h : notStar e = true) : starEach (e :: rest) env = (false, eval e env) :: starEach rest env := by
  cases e <;> first | rfl | exact Bool.noConfusion h
theorem vrl_nil {bx h} {vs : List Value} : VrL bx h [] vs ↔ vs = [] := by unfold VrL; exact Iff.rfl
theorem vrl_cons {bx h} {p : PV} {ps : List PV} {vs : List Value} : VrL bx h (p :: ps) vs ↔ ∃ v r, vs = v :: r ∧ Vr bx h p v ∧ VrL bx h ps r := by
  constructor
  · intro x; unfold VrL at x; exact x
  · intro x; unfold VrL; exact x
theorem vrl_len {bx h} : ∀ {ps : List PV} {vs : List Value}, VrL bx h ps vs → vs.length = ps.length
  | [], _, r => by rw [vrl_nil.mp r]; rfl
  | _ :: _, _, r => by
    obtain ⟨v, t, rfl, _, r2⟩ := vrl_cons.mp r
    rw [List.length_cons, List.length_cons, vrl_len r2]
theorem SL_nil {pos : Pos} (h : KL [] ω) : SL c (spliced (backTo pos (starEach [] c.env))) ρ ω KL X := fun s Q E f hQ hE => wpAny_items_nil (hQ [] _ ω _ h f.inv (.refl _ _) (vrl_nil.mpr rfl))
theorem SL_cons {pos : Pos} {e : Expr} {rest : List Expr} (hs : notStar e = true) (h : SE c e ρ ω (fun p ω1 => SL c (spliced (backTo pos (starEach rest c.env))) ρ ω1 (fun ps ω2 => KL (p :: ps) ω2) X) X) :
    SL c (spliced (backTo pos (starEach (e :: rest) c.env))) ρ ω KL X := fun s Q E f hQ hE =>
  wpAny_items_cons (h s _ _ f (fun p v ω1 s1 hK i1 k1 r1 => hK s1 _ _ (f.step i1 k1) (fun ps vs ω2 s2 hK i2 k2 r2 => hQ _ _ ω2 _ hK i2 (k1.trans k2) (vrl_cons.mpr ⟨_, _, rfl, r1.mono k2, r2⟩))
    fun code ea ω' s' x i k e => hE code ea ω' s' x i (k1.trans k) e) hE) (starEach_cons hs)
theorem push_keeps {h : Heap} {o : Obj} : ∀ b o', h.get? b = some o' → (h.push o).get? b = some o' := fun _ _ e => Heap.get?_push_of_some _ e
theorem SE_tup {es : List Expr} {k : Nat} {pos : Pos} (h : SL c (spliced (backTo pos (starEach es c.env))) ρ ω (fun ps ω1 => ps.length ≤ 64 ∧ K (.tup ps) ω1) X) : SE c (.Tuple es k pos) ρ ω K X := fun s Q E f hQ hE =>
  wpAny_Tuple (h s _ _ f (fun ps vs ω1 s1 hK i1 k1 r1 => by
    have hl := vrl_len r1
    refine ⟨by rw [hl, sizeLine_eq]; have := hK.1; omega, ?_⟩
    have kk := push_keeps (h := s1.heap) (o := { cls := .type "tuple", data := .seq vs.toArray })
    refine hQ _ _ ω1 _ hK.2 (i1.ext kk) (k1.trans (.of_keeps kk)) ?_
    unfold Vr
    exact ⟨_, _, _, _, rfl, Nat.ne_of_gt i1.bxlt, Heap.get?_push_size _ rfl, rfl, rfl, by rw [List.toList_toArray]; exact r1.mono (.of_keeps kk)⟩) hE)
theorem SE_lst {es : List Expr} {pos : Pos} (h : SL c (spliced (backTo pos (starEach es c.env))) ρ ω (fun ps ω1 => ps.length ≤ 64 ∧ K (.lst ps) ω1) X) : SE c (.List es pos) ρ ω K X := fun s Q E f hQ hE =>
  wpAny_List (h s _ _ f (fun ps vs ω1 s1 hK i1 k1 r1 => by
    have hl := vrl_len r1
    refine ⟨by rw [hl, sizeLine_eq]; have := hK.1; omega, ?_⟩
    have kk := push_keeps (h := s1.heap) (o := { cls := .type "list", data := .seq vs.toArray })
    refine hQ _ _ ω1 _ hK.2 (i1.ext kk) (k1.trans (.of_keeps kk)) ?_
    unfold Vr
    exact ⟨_, _, _, _, rfl, Nat.ne_of_gt i1.bxlt, Heap.get?_push_size _ rfl, rfl, rfl, by rw [List.toList_toArray]; exact r1.mono (.of_keeps kk)⟩) hE)
/-- an item of a tuple or of the box, by a written place -/
noncomputable def Iat (a : PV) (i : Int) (ω : Om) (K : PV → Prop) : Prop := match a with
  | .tup ps => ∃ j : Nat, i = j ∧ ∃ p, ps[j]? = some p ∧ j < 64 ∧ K p
  | .box => ∃ b0 b1, ω = some (b0, b1) ∧ ((i = 0 ∧ K (.int b0)) ∨ (i = 1 ∧ K (.int b1)))
  | _ => False
theorem Iat_inv {a : PV} {i : Int} {ω : Om} {K : PV → Prop} (h : Iat a i ω K) : (∃ ps, a = .tup ps ∧ ∃ j : Nat, i = j ∧ ∃ p, ps[j]? = some p ∧ j < 64 ∧ K p) ∨ (a = .box ∧ ∃ b0 b1, ω = some (b0, b1) ∧ ((i = 0 ∧ K (.int b0)) ∨ (i = 1 ∧ K (.int b1)))) := by
  cases a <;> first | exact (h : False).elim | exact .inl ⟨_, rfl, h⟩ | exact .inr ⟨rfl, h⟩
theorem seqIndex_of {vs : Array Value} {j : Nat} {u : Value} (h : vs.toList[j]? = some u) : seqIndex? (j : Int) vs.size = some j := by
  have hlt : j < vs.size := by
    have := (List.getElem?_eq_some_iff.mp h).1
    simpa using this
  unfold seqIndex?
  simp
  omega
theorem vrl_get {bx h} : ∀ {ps : List PV} {vs : List Value} {j : Nat} {p : PV}, VrL bx h ps vs → ps[j]? = some p → ∃ v, vs[j]? = some v ∧ Vr bx h p v
  | [], _, _, _, _, e => by simp at e
  | q :: ps, _, j, p, r, e => by
    obtain ⟨v, t, rfl, r1, r2⟩ := vrl_cons.mp r
    cases j with
    | zero => simp at e; subst e; exact ⟨v, rfl, r1⟩
    | succ j => simp at e ⊢; exact vrl_get r2 e
theorem idx_sound {s1 : Shared} {a : PV} {v : Value} {i : Int} {t : Nat} {x : Str} {np ip : Pos} {k : Nat} {K : PV → Prop} {Q : Value → Shared → Prop} {E : Value → Shared → Prop} (hK : Iat a i ω K) (i1 : Inv c.toSt ω s1) (r1 : Vr c.bx s1.heap a v)
    (hQ : ∀ b w, K b → Vr c.bx s1.heap b w → Q w s1) : wpAny (model PRG c.w) c.A (subscriptTail (.Name x np) (.Constant (.int i) k ip) v (.int i t)) Q E s1 := by
  rcases Iat_inv hK with ⟨ps, rfl, j, rfl, p, hp, hj, hk⟩ | ⟨rfl, b0, b1, rfl, hh⟩
  · unfold Vr at r1
    obtain ⟨a, o, vs, n, rfl, hb, ho, hc, hd, hl⟩ := r1
    obtain ⟨u, hu, ru⟩ := vrl_get hl hp
    exact tail_any ⟨o, ho, hc⟩ slot_tuple_getitem.lookup (getItem_tuple (j := j) ⟨o, ho, hc, n, hd⟩ (by omega) (by omega) (seqIndex_of hu) (by simpa using hu) (hQ _ _ hk ru)) (by with_unfolding_all rfl)
  · unfold Vr at r1; subst r1
    obtain ⟨_, o, n, t0, t1, ho, hc, hd⟩ := i1.box _ _ rfl
    rcases hh with ⟨rfl, h⟩ | ⟨rfl, h⟩
    · exact tail_any ⟨o, ho, hc⟩ slot_list_getitem.lookup (wpAny_getItem_list (x := .int b0 t0) ⟨o, ho, hc, n, hd⟩ (by decide) (by decide) rfl (hQ _ _ h vr_int')) (by with_unfolding_all rfl)
    · exact tail_any ⟨o, ho, hc⟩ slot_list_getitem.lookup (wpAny_getItem_list (x := .int b1 t1) ⟨o, ho, hc, n, hd⟩ (by decide) (by decide) rfl (hQ _ _ h vr_int')) (by with_unfolding_all rfl)
theorem SE_idx {x : Str} {np pos ip : Pos} {i : Int} {k : Nat} (h : SE c (.Name x np) ρ ω (fun a ω1 => Iat a i ω1 fun v => K v ω1) X) : SE c (.Subscript (.Name x np) (.Constant (.int i) k ip) pos) ρ ω K X := fun s Q E f hQ hE =>
  Subscript_ (h s _ _ f (fun a v ω1 s1 hK i1 k1 r1 => wpAny_Constant_int (idx_sound hK i1.tok (r1.mono (.of_keeps fun _ _ e => e)) fun b w hb rb => hQ _ _ ω1 _ hb i1.tok k1 rb)) hE)
end
end Mine
end TextMF
section TextMG
open PySem PySem.W PySem.Calls PyProof.Rows
set_option Elab.async false
set_option linter.unusedVariables false
set_option maxRecDepth 100000
namespace Mine
noncomputable def fnAddrs : List Nat := [44, 51, 58, 65, 72, 79, 86, 94, 101, 108, 115, 122, 129, 136, 143, 150, 157, 164, 171, 178, 185, 192, 199, 206, 213, 220, 227, 234, 241, 248, 255, 262, 269, 276, 283, 290, 297, 304, 311, 318, 325, 332, 337]
theorem fn_all (w : World) : fnAddrs.all (fnIn (hd.heap_39 w.params)) = true := by kernel_rfl
theorem fn_at {w : World} {a : Nat} (h : fnAddrs.contains a = true) : ∃ oc od fd sl, (hd.heap_39 w.params).lookup a = some ⟨oc, od, .func fd, sl⟩ := by
  have := List.all_eq_true.mp (fn_all w) a (List.contains_iff_mem.mp h)
  unfold fnIn at this
  split at this
  · rename_i oc od fd sl e; exact ⟨oc, od, fd, sl, e⟩
  · cases this
/-- a call, judged in a frame -/
noncomputable def CallJ (c : Cx) (fv : PV) (ps : List PV) (ρ : Store) (ω : Om) (K : PV → Om → Prop) (X : Str → Om → Prop) : Prop :=
  ∀ s (Q E : Value → Shared → Prop) f vs, FrI c ρ ω s → Vr c.bx s.heap fv f → VrL c.bx s.heap ps vs →
    (∀ b a ω' s', K b ω' → Inv c.toSt ω' s' → Kp c.bx s.heap s'.heap → Vr c.bx s'.heap b a → Q a s') →
    (∀ code ea ω' s', X code ω' → Inv c.toSt ω' s' → Kp c.bx s.heap s'.heap → ExcAt c.G (c.env :: c.outer) s'.heap ea code → E (.ref ea) s') →
    wpAny (model PRG c.w) c.A (call f vs) Q E s
noncomputable def Callable : PV → Prop
  | .adr a => fnAddrs.contains a = true
  | .bi _ => True
  | .ty _ => True
  | _ => False
theorem starEach_any {env : Env} {pos : Pos} : ∀ {es : List Expr}, es.all notStar = true → (backTo pos (starEach es env)).any (·.1) = false
  | [], _ => rfl
  | e :: es, h => by
    rw [List.all_cons, Bool.and_eq_true] at h
    rw [starEach_cons h.1]
    show (false || (backTo pos (starEach es env)).any (·.1)) = false
    rw [starEach_any h.2]; rfl
section
variable {M : Model} {A : Around} {E : Value → Shared → Prop} {s : Shared}
theorem evalArgs_of {env : Env} {pos : Pos} {f : Value} {Q : Args → Shared → Prop} : ∀ {es : List Expr}, es.all notStar = true →
    wpAny M A (spliced (backTo pos (starEach es env))) (fun vs s' => Q ⟨vs, []⟩ s') E s → wpAny M A (evalArgs f true (backTo pos (starEach es env)) []) Q E s
  | [], _, h => by
    unfold evalArgs
    exact wpAny_bind (wpAny_mono h (fun vs s' h' => wpAny_holding (wpAny_bind (wpAny_pure (wpAny_bind (wpAny_pure (wpAny_pure h')))))) fun _ _ x => x)
  | e :: es, hn, h => by
    rw [List.all_cons, Bool.and_eq_true] at hn
    rw [starEach_cons hn.1] at h ⊢
    exact evalArgs_plain h
end
section
variable {c : Cx} {ρ : Store} {ω : Om} {K : PV → Om → Prop} {X : Str → Om → Prop}
theorem SE_call (O : c.Ok) {x : Str} {np pos : Pos} {es : List Expr} (hn : es.all notStar = true)
    (h : SE c (.Name x np) ρ ω (fun fv ω1 => Callable fv ∧ SL c (spliced (backTo pos (starEach es c.env))) ρ ω1 (fun ps ω2 => CallJ c fv ps ρ ω2 K X) X) X) :
    SE c (.Call (.Name x np) es [] pos) ρ ω K X := fun s Q E f hQ hE =>
  wpAny_Call_ofName (h s _ _ f (fun fv v ω1 s1 hK i1 k1 r1 => by
    obtain ⟨hc, hl⟩ := hK
    have inner : wpAny (model PRG c.w) c.A (spliced (backTo pos (starEach es c.env))) (fun vs s2 => ∃ ω2, Inv c.toSt ω2 s2 ∧ wpAny (model PRG c.w) c.A (call v vs) Q E s2) E s1 :=
      hl s1 _ _ (f.step i1 k1) (fun ps vs ω2 s2 hJ i2 k2 r2 => ⟨ω2, i2, hJ s2 _ _ v vs ((f.step i1 k1).step i2 k2) (r1.mono k2) r2
        (fun b a ω' s' hk i k r => hQ b a ω' s' hk i ((k1.trans k2).trans k) r) fun code ea ω' s' x i k e => hE code ea ω' s' x i ((k1.trans k2).trans k) e⟩)
        fun code ea ω' s' x i k e => hE code ea ω' s' x i (k1.trans k) e
    show wpAny _ _ (callWith pos v [] (backTo pos (starEach es c.env)) []) _ _ _
    cases fv with
    | adr a =>
      unfold Vr at r1; subst r1
      obtain ⟨oc, od, fd, sl, hf⟩ := fn_at (w := c.w) hc
      exact callWith_function (o := ⟨oc, od, .func fd, sl⟩) (fd := fd) (evalArgs_of hn (wpAny_mono inner (fun vs s2 ⟨ω2, i2, h2⟩ => ⟨⟨i2.stays _ _ (O.st.X _ _ hf), rfl⟩, h2⟩) fun _ _ x => x))
    | bi n =>
      unfold Vr at r1; subst r1
      cases n <;> exact callWith_builtin (starEach_any hn) (evalArgs_of hn (wpAny_mono inner (fun vs s2 ⟨ω2, i2, h2⟩ => h2) fun _ _ x => x))
    | ty n =>
      unfold Vr at r1; subst r1
      cases n <;> exact PyProof.Rows.callWith_type (starEach_any hn) (evalArgs_of hn (wpAny_mono inner (fun vs s2 ⟨ω2, i2, h2⟩ => h2) fun _ _ x => x))
    | _ => exact (hc : False).elim) hE)
noncomputable def isi : PV → Ty → Option Bool
  | .int _, T => (match T with | .int => some true | .str => some false | .tuple => some false | _ => none)
  | .str _, T => (match T with | .int => some false | .str => some true | .tuple => some false | _ => none)
  | .tup _, T => (match T with | .int => some false | .str => some false | .tuple => some true | _ => none)
  | .lst _, T => (match T with | .str => some false | _ => none)
  | _, _ => none
noncomputable def reprPV : PV → Str
  | .int i => Str.ofString (toString i)
  | .str x => reprText x
  | .tup [.int a, .int b] => (PyData.tuple [.int a, .int b]).shown
  | _ => Str.empty
noncomputable def ReprOk : PV → Prop
  | .int i => i.natAbs.log2 < 1920
  | .str x => (reprText x).length ≤ sizeLine
  | .tup ps => ∃ a b, ps = [.int a, .int b] ∧ a.natAbs.log2 < 1920 ∧ b.natAbs.log2 < 1920
  | _ => False
theorem ReprOk_inv {p : PV} (h : ReprOk p) : (∃ i, p = .int i ∧ i.natAbs.log2 < 1920) ∨ (∃ x, p = .str x ∧ (reprText x).length ≤ sizeLine) ∨ ∃ a b, p = .tup [.int a, .int b] ∧ a.natAbs.log2 < 1920 ∧ b.natAbs.log2 < 1920 := by
  cases p <;> first | exact (h : False).elim | exact .inl ⟨_, rfl, h⟩ | exact .inr (.inl ⟨_, rfl, h⟩) | (obtain ⟨a, b, rfl, e⟩ := h; exact .inr (.inr ⟨a, b, rfl, e⟩))
noncomputable def one (ps : List PV) (K : PV → Prop) : Prop := match ps with
  | p :: l => l = [] ∧ K p
  | [] => False
noncomputable def two (ps : List PV) (K : PV → PV → Prop) : Prop := match ps with
  | p :: l => one l (K p)
  | [] => False
theorem one_inv {ps : List PV} {K : PV → Prop} (h : one ps K) : ∃ p, ps = [p] ∧ K p := by
  cases ps with
  | nil => exact (h : False).elim
  | cons p l => exact ⟨p, congrArg (p :: ·) (And.left h), And.right h⟩
theorem two_inv {ps : List PV} {K : PV → PV → Prop} (h : two ps K) : ∃ p q, ps = [p, q] ∧ K p q := by
  cases ps with
  | nil => exact (h : False).elim
  | cons p l => obtain ⟨q, rfl, e⟩ := one_inv h; exact ⟨p, q, rfl, e⟩
noncomputable def PV.asT : PV → (Ty → Prop) → Prop
  | .ty T, K => K T
  | _, _ => False
theorem asT_inv {p : PV} {K : Ty → Prop} (h : p.asT K) : ∃ i, p = .ty i ∧ K i := by
  cases p <;> first | exact (h : False).elim | exact ⟨_, rfl, h⟩
noncomputable def Bcall (n : Bi) (ps : List PV) (K : PV → Prop) : Prop := match n with
  | .abs => one ps fun p => p.asI fun i => K (.int (if i < 0 then -i else i))
  | .min => two ps fun p q => p.asI fun a => q.asI fun b => K (.int (if b < a then b else a))
  | .max => two ps fun p q => p.asI fun a => q.asI fun b => K (.int (if b > a then b else a))
  | .repr => one ps fun p => ReprOk p ∧ K (.str (reprPV p))
  | .isinstance => two ps fun p q => q.asT fun T => ∃ b, isi p T = some b ∧ K (.bool b)
noncomputable def Tcall (n : Ty) (ps : List PV) (K : PV → Prop) : Prop := match n with
  | .int => one ps fun p => p.asB fun b => K (.int (if b then 1 else 0))
  | _ => False
theorem shown_len {a b : Int} (ha : a.natAbs.log2 < 1920) (hb : b.natAbs.log2 < 1920) : ((PyData.tuple [.int a, .int b]).shown).length ≤ sizeLine := by
  have la := int_text_len_1921 ha
  have lb := int_text_len_1921 hb
  show (tupleText [Str.ofString (toString a), Str.ofString (toString b)]).length ≤ sizeLine
  have hj := join_length_add [Str.ofString (toString a), Str.ofString (toString b)] (by simp)
  simp only [piled] at hj
  unfold tupleText
  rw [strLen_append, strLen_append, sizeLine_eq]
  have h1 : (Str.ofString "(").length ≤ 10 := by decide
  have h2 : (Str.ofString (if ([Str.ofString (toString a), Str.ofString (toString b)].length == 1) = true then ",)" else ")")).length ≤ 10 := by
    rw [show ([Str.ofString (toString a), Str.ofString (toString b)].length == 1) = false from rfl]; decide
  simp only [List.map_cons, List.map_nil, List.sum_cons, List.sum_nil] at hj
  omega
theorem vr_tup {bx h ps v} : Vr bx h (.tup ps) v ↔ ∃ a o vs n, v = .ref a ∧ a ≠ bx ∧ h.get? a = some o ∧ o.cls = .type "tuple" ∧ o.data = .seq vs n ∧ VrL bx h ps vs.toList := by
  constructor
  · intro x; unfold Vr at x; exact x
  · intro x; unfold Vr; exact x
theorem vr_lst {bx h ps v} : Vr bx h (.lst ps) v ↔ ∃ a o vs n, v = .ref a ∧ a ≠ bx ∧ h.get? a = some o ∧ o.cls = .type "list" ∧ o.data = .seq vs n ∧ VrL bx h ps vs.toList := by
  constructor
  · intro x; unfold Vr at x; exact x
  · intro x; unfold Vr; exact x
theorem vr_ty {bx h n v} : Vr bx h (.ty n) v ↔ v = n.val := by unfold Vr; exact Iff.rfl
theorem vr_bi {bx h n v} : Vr bx h (.bi n) v ↔ v = n.val := by unfold Vr; exact Iff.rfl
theorem vr_adr {bx h n v} : Vr bx h (.adr n) v ↔ v = .ref n := by unfold Vr; exact Iff.rfl
theorem vr_box {bx h v} : Vr bx h .box v ↔ v = .ref bx := by unfold Vr; exact Iff.rfl
theorem vrl_one {bx h} {p : PV} {vs : List Value} (r : VrL bx h [p] vs) : ∃ v, vs = [v] ∧ Vr bx h p v := by
  obtain ⟨v, t, rfl, r1, r2⟩ := vrl_cons.mp r
  obtain rfl := vrl_nil.mp r2
  exact ⟨v, rfl, r1⟩
theorem vrl_two {bx h} {p q : PV} {vs : List Value} (r : VrL bx h [p, q] vs) : ∃ v u, vs = [v, u] ∧ Vr bx h p v ∧ Vr bx h q u := by
  obtain ⟨v, t, rfl, r1, r2⟩ := vrl_cons.mp r
  obtain ⟨u, rfl, r3⟩ := vrl_one r2
  exact ⟨v, u, rfl, r1, r3⟩
theorem vrl_int2 {bx h} {a b : Int} {vs : List Value} (r : VrL bx h [.int a, .int b] vs) : ∃ t u, vs = [.int a t, .int b u] := by
  obtain ⟨v, u, rfl, r1, r2⟩ := vrl_two r
  obtain ⟨t, rfl⟩ := vr_int.mp r1
  obtain ⟨t', rfl⟩ := vr_int.mp r2
  exact ⟨t, t', rfl⟩
theorem none_some {α : Type} {a : α} {P : Prop} (h : none = some a) : P := nomatch h
theorem isi_sound {s : Shared} {Q E : Value → Shared → Prop} {p : PV} {v : Value} {T : Ty} {b : Bool} (hi : isi p T = some b) (r : Vr c.bx s.heap p v) (hQ : ∀ tk, Q (.bool b) { s with toks := tk }) :
    wpAny (model PRG c.w) c.A (call (.builtin "isinstance") [v, T.val]) Q E s := by
  cases p with
  | int i =>
    obtain ⟨t, rfl⟩ := vr_int.mp r; clear r
    cases T <;> first | exact none_some hi | (cases hi; first | exact IsiPair.int_int (hQ _) | exact IsiPair.int_str (hQ _) | exact IsiPair.int_tuple (hQ _))
  | str i =>
    obtain ⟨t, rfl⟩ := vr_str.mp r; clear r
    cases T <;> first | exact none_some hi | (cases hi; first | exact IsiPair.str_int (hQ _) | exact IsiPair.str_str (hQ _) | exact IsiPair.str_tuple (hQ _))
  | tup i =>
    obtain ⟨a, o, vs, n, rfl, hb, ho, hc, hd, hl⟩ := vr_tup.mp r; clear r hl hb hd
    cases T <;> first | exact none_some hi | (cases hi; first | exact IsiPair.tuple_int ho hc (hQ _) | exact IsiPair.tuple_str ho hc (hQ _) | exact IsiPair.tuple_tuple ho hc (hQ _))
  | lst i =>
    obtain ⟨a, o, vs, n, rfl, hb, ho, hc, hd, hl⟩ := vr_lst.mp r; clear r hl hb hd
    cases T <;> first | exact none_some hi | (cases hi; exact IsiPair.list_str ho hc (hQ _))
  | _ => exact none_some hi
theorem repr_sound (O : c.Ok) {s : Shared} {Q E : Value → Shared → Prop} {p : PV} {v : Value} (hp : ReprOk p) (r : Vr c.bx s.heap p v) (h6 : 6 ≤ c.d)
    (hQ : ∀ h' u tk, (∀ b o, s.heap.get? b = some o → h'.get? b = some o) → Q (.str (reprPV p) u) { s with heap := h', toks := tk }) :
    wpAny (model PRG c.w) c.A (call (.builtin "repr") [v]) Q E s := by
  rcases ReprOk_inv hp with ⟨i, rfl, hp'⟩ | ⟨x, rfl, hp'⟩ | ⟨a, b, rfl, hp'⟩
  · obtain ⟨t, rfl⟩ := vr_int.mp r
    exact PySem.P.repr_of_int hp' (hQ _ _ _ fun _ _ e => e)
  · obtain ⟨t, rfl⟩ := vr_str.mp r
    exact PySem.P.repr_of_str (hQ _ _ _ fun _ _ e => e) hp'
  · obtain ⟨ad, o, vs, n, rfl, hb, ho, hc, hd, hl⟩ := vr_tup.mp r
    obtain ⟨t1, t2, e2⟩ := vrl_int2 hl
    have rd : Reads s.heap (.ref ad) (.tuple [.int a, .int b]) ([] ++ ([] ++ [])) := Reads.tuple ho hc hd (e2 ▸ ReadsAll.cons (.int _ _) (ReadsAll.cons (.int _ _) .nil))
    refine repr_of_reads' rd ?_ (PyData.noDict_hsm rfl) O.guards ?_ (fun _ _ e => e) hQ (shown_len hp'.1 hp'.2)
    · simp only [PyData.showable, PyData.showableAll, decide_eq_true hp'.1, decide_eq_true hp'.2]; rfl
    · have := O.units
      have e : (PyData.tuple [.int a, .int b]).depth ≤ 5 := by simp [PyData.depth, PyData.depthAll]
      omega
theorem abs_J {i : Int} (h : K (.int (if i < 0 then -i else i)) ω) : CallJ c (.bi .abs) [.int i] ρ ω K X := fun s Q E fv vs f r rl hQ hE => by
  obtain rfl := vr_bi.mp r
  obtain ⟨v1, rfl, h1⟩ := vrl_one rl
  obtain ⟨t1, rfl⟩ := vr_int.mp h1
  exact PyProof.Rows.call_abs_int fun u tk => hQ _ _ ω _ h f.inv.tok (.refl _ _) vr_int'
theorem min_J (O : c.Ok) {a b : Int} (h : K (.int (if b < a then b else a)) ω) : CallJ c (.bi .min) [.int a, .int b] ρ ω K X := fun s Q E fv vs f r rl hQ hE => by
  obtain rfl := vr_bi.mp r
  obtain ⟨t1, t2, rfl⟩ := vrl_int2 rl
  refine min_two_ints O.hand fun h' tk k => ?_
  by_cases q : b < a
  · rw [if_pos q] at h ⊢; exact hQ _ _ ω _ h (f.inv.ext k) (.of_keeps k) vr_int'
  · rw [if_neg q] at h ⊢; exact hQ _ _ ω _ h (f.inv.ext k) (.of_keeps k) vr_int'
theorem max_J (O : c.Ok) {a b : Int} (h : K (.int (if b > a then b else a)) ω) : CallJ c (.bi .max) [.int a, .int b] ρ ω K X := fun s Q E fv vs f r rl hQ hE => by
  obtain rfl := vr_bi.mp r
  obtain ⟨t1, t2, rfl⟩ := vrl_int2 rl
  refine max_two_ints O.hand fun h' tk k => ?_
  by_cases q : b > a
  · rw [if_pos q] at h ⊢; exact hQ _ _ ω _ h (f.inv.ext k) (.of_keeps k) vr_int'
  · rw [if_neg q] at h ⊢; exact hQ _ _ ω _ h (f.inv.ext k) (.of_keeps k) vr_int'
theorem repr_J (O : c.Ok) (h6 : 6 ≤ c.d) {p : PV} (hp : ReprOk p) (h : K (.str (reprPV p)) ω) : CallJ c (.bi .repr) [p] ρ ω K X := fun s Q E fv vs f r rl hQ hE => by
  obtain rfl := vr_bi.mp r
  obtain ⟨v1, rfl, h1⟩ := vrl_one rl
  exact repr_sound O hp h1 h6 fun h' u tk k => hQ _ _ ω _ h (f.inv.ext k) (.of_keeps k) vr_str'
theorem isi_J {p : PV} {T : Ty} {b : Bool} (hb : isi p T = some b) (h : K (.bool b) ω) : CallJ c (.bi .isinstance) [p, .ty T] ρ ω K X := fun s Q E fv vs f r rl hQ hE => by
  obtain rfl := vr_bi.mp r
  obtain ⟨v1, v2, rfl, h1, h2⟩ := vrl_two rl
  obtain rfl := vr_ty.mp h2
  exact isi_sound hb h1 fun tk => hQ _ _ ω _ h f.inv.tok (.refl _ _) vr_bool'
theorem CallJ_bi (O : c.Ok) (h6 : 6 ≤ c.d) {n : Bi} {ps : List PV} (h : Bcall n ps fun v => K v ω) : CallJ c (.bi n) ps ρ ω K X := by
  cases n with
  | abs => obtain ⟨p, rfl, h1⟩ := one_inv h; obtain ⟨i, rfl, h2⟩ := asI_inv h1; exact abs_J h2
  | min => obtain ⟨p, q, rfl, h1⟩ := two_inv h; obtain ⟨i, rfl, h2⟩ := asI_inv h1; obtain ⟨j, rfl, h3⟩ := asI_inv h2; exact min_J O h3
  | max => obtain ⟨p, q, rfl, h1⟩ := two_inv h; obtain ⟨i, rfl, h2⟩ := asI_inv h1; obtain ⟨j, rfl, h3⟩ := asI_inv h2; exact max_J O h3
  | repr => obtain ⟨p, rfl, h1⟩ := one_inv h; exact repr_J O h6 h1.1 h1.2
  | isinstance => obtain ⟨p, q, rfl, h1⟩ := two_inv h; obtain ⟨T, rfl, h2⟩ := asT_inv h1; obtain ⟨b, hb, h3⟩ := h2; exact isi_J hb h3
theorem CallJ_ty {n : Ty} {ps : List PV} (h : Tcall n ps fun v => K v ω) : CallJ c (.ty n) ps ρ ω K X := fun s Q E fv vs f r rl hQ hE => by
  obtain rfl := vr_ty.mp r
  cases n with
  | int =>
    obtain ⟨p, rfl, h1⟩ := one_inv h; obtain ⟨b, rfl, h2⟩ := asB_inv h1
    obtain ⟨v1, rfl, h3⟩ := vrl_one rl
    obtain rfl := vr_bool.mp h3
    exact call_int_bool (hQ _ _ ω _ h2 f.inv.tok (.refl _ _) vr_int')
  | _ => exact (h : False).elim
end
end Mine
end TextMG
section TextMH
open PySem PySem.W PySem.Calls PyProof.Rows
set_option Elab.async false
set_option linter.unusedVariables false
set_option maxRecDepth 100000
namespace Mine
/-- a place whose change hurts nothing that the invariant holds -/
noncomputable def Foreign (c : St) (h : Heap) (a : Addr) : Prop := c.G.get? a = none ∧ ∀ o, h.get? a = some o →
  (∃ vs, o.data = .fields vs ∧ o.cls ≠ .none ∧ ∀ q t, vs[1]? ≠ some (.str q t)) ∨ (∃ es n, o.data = .dict es n) ∨ ∃ v, o.data = .cell v
theorem TabI.foreign {c : St} {h h' : Heap} {a P : Addr} {q : Str} (x : TabI h P q) (hx : Heap.ExtBut a h h') (hf : Foreign c h a) : TabI h' P q := by
  obtain ⟨ps, e, t, r⟩ := x
  refine ⟨ps, hx P _ (fun z => ?_) e, t, fun pos cv hc => ⟨(r pos cv hc).1, ?_⟩⟩
  · rcases hf.2 _ (z ▸ e) with ⟨vs, d, k, _⟩ | ⟨es, n, d⟩ | ⟨v, d⟩
    · exact k rfl
    · cases d
    · cases d
  · obtain ⟨c', o, vs, tq, e1, e2, e3, e4⟩ := (r pos cv hc).2
    refine ⟨c', o, vs, tq, e1, hx c' o (fun z => ?_) e2, e3, e4⟩
    rcases hf.2 _ (z ▸ e2) with ⟨ws, d, k, nn⟩ | ⟨es, n, d⟩ | ⟨v, d⟩
    · rw [e3] at d; cases d; exact nn _ _ e4
    · rw [e3] at d; cases d
    · rw [e3] at d; cases d
theorem Inv.foreign {c : St} {ω : Om} {s : Shared} {h' : Heap} {tk : Nat} {a : Addr} (x : Inv c ω s) (hx : Heap.ExtBut a s.heap h') (hf : Foreign c s.heap a) : Inv c ω { s with heap := h', toks := tk } where
  gens := x.gens
  os := x.os
  stays := fun b o e => hx b o (fun z => by rw [z, hf.1] at e; cases e) (x.stays b o e)
  tabA := x.tabA.foreign hx hf
  tabB := x.tabB.foreign hx hf
  bxs := by
    obtain ⟨o, vs, n, e, d⟩ := x.bxs
    refine ⟨o, vs, n, hx _ _ (fun z => ?_) e, d⟩
    rcases hf.2 _ (z ▸ e) with ⟨ws, d', _⟩ | ⟨es, n, d'⟩ | ⟨v, d'⟩ <;> rw [d] at d' <;> cases d'
  box := fun b0 b1 q => by
    obtain ⟨g, o, n, t0, t1, e, hc, d⟩ := x.box b0 b1 q
    refine ⟨g, o, n, t0, t1, hx _ _ (fun z => ?_) e, hc, d⟩
    rcases hf.2 _ (z ▸ e) with ⟨ws, d', _⟩ | ⟨es, n, d'⟩ | ⟨v, d'⟩ <;> rw [d] at d' <;> cases d'
theorem Foreign.ks {c : St} {h h' : Heap} {a : Addr} (hx : Heap.ExtBut a h h') (hf : Foreign c h a) : Ks c.bx h h' := fun b o vs n e hb hd => by
  refine hx b o (fun z => ?_) e
  rcases hf.2 _ (z ▸ e) with ⟨ws, d', _⟩ | ⟨es, n, d'⟩ | ⟨v, d'⟩ <;> rw [hd] at d' <;> cases d'
/-- what a statement keeps: all but namespaces, cells, the box and the exceptions' own records -/
noncomputable def Kn (bx : Addr) (h h' : Heap) : Prop := ∀ b o, h.get? b = some o → b ≠ bx → Keptd o → (∀ es n, o.data ≠ .dict es n) → (∀ v, o.data ≠ .cell v) → h'.get? b = some o
theorem Kp.kn {bx : Addr} {h h' : Heap} (k : Kp bx h h') : Kn bx h h' := fun b o e hb hk hd _ => k.ex b o e hb hk hd
theorem Kn.ks {bx : Addr} {h h' : Heap} (k : Kn bx h h') : Ks bx h h' := fun b o vs n e hb hd => k b o e hb (.seq hd) (fun es n q => by rw [hd] at q; cases q) fun v q => by rw [hd] at q; cases q
theorem Kn.refl (bx : Addr) (h : Heap) : Kn bx h h := (Kp.refl bx h).kn
theorem Kn.trans {bx : Addr} {h₁ h₂ h₃ : Heap} (x : Kn bx h₁ h₂) (y : Kn bx h₂ h₃) : Kn bx h₁ h₃ := fun b o e hb hk h1 h2 => y b o (x b o e hb hk h1 h2) hb hk h1 h2
theorem Kn.but {bx a : Addr} {h₀ h h' : Heap} (x : Kn bx h₀ h) (hs : Heap.ExtBut a h h') (ha : h₀.get? a = none) : Kn bx h₀ h' := fun b o e hb hk h1 h2 =>
  hs b _ (fun q => by rw [q, ha] at e; cases e) (x b o e hb hk h1 h2)
theorem Kn.butNs {bx a : Addr} {h h' : Heap} {o : Obj} (hs : Heap.ExtBut a h h') (ha : h.get? a = some o) (hd : (∃ es n, o.data = .dict es n) ∨ ∃ v, o.data = .cell v) : Kn bx h h' := fun b o' e hb hk h1 h2 => by
  refine hs b _ (fun q => ?_) e
  rw [q, ha] at e; cases e
  rcases hd with ⟨es, n, d⟩ | ⟨v, d⟩
  · exact h1 _ _ d
  · exact h2 _ d
theorem FF.but {G : Heap} {l : List Env} {h h' : Heap} {a : Addr} (x : FF G l h) (hx : Heap.ExtBut a h h') (ha : ∀ e ∈ l, e.frame ≠ some a) : FF G l h' := fun e he => by
  obtain ⟨k1, L, o, es, n, hf, hg, ho, hd⟩ := x e he
  exact ⟨k1, L, o, es, n, hf, hg, hx L o (fun z => ha e he (z ▸ hf)) ho, hd⟩
theorem Kp.but {bx a : Addr} {h₀ h h' : Heap} (x : Kp bx h₀ h) (hs : Heap.ExtBut a h h') (ha : ∀ o, h₀.get? a = some o → a ≠ bx → Keptd o → False) : Kp bx h₀ h' := by
  refine ⟨fun b o e hb hk => ?_, fun b o e hb hk hd => hs b _ (fun q => ha o (q ▸ e) (q ▸ hb) hk) (x.ex b o e hb hk hd)⟩
  obtain ⟨sl, e₁⟩ := x.up b o e hb hk
  exact ⟨sl, hs b _ (fun q => ha o (q ▸ e) (q ▸ hb) hk) e₁⟩
/-- an own record's change (an iterator) -/
theorem FrI.foreign {c : Cx} {ρ : Store} {ω : Om} {s : Shared} {h' : Heap} {tk : Nat} {a : Addr} (f : FrI c ρ ω s) (hx : Heap.ExtBut a s.heap h') (hg : c.G.get? a = none) (he : ∀ o, c.he.get? a = some o → a ≠ c.bx → Keptd o → False)
    (ha : ∀ o, s.heap.get? a = some o → ∃ vs, o.data = .fields vs ∧ o.cls ≠ .none ∧ ∀ q t, vs[1]? ≠ some (.str q t)) : FrI c ρ ω { s with heap := h', toks := tk } := by
  have hf : Foreign c.toSt s.heap a := ⟨hg, fun o e => .inl (ha o e)⟩
  have hL : ∀ m, s.heap.Ns c.L m → h'.Ns c.L m := fun m ⟨o, es, ep, ho, hd, r⟩ => ⟨o, es, ep, hx _ _ (fun z => by
    obtain ⟨vs, d, _⟩ := ha o (z ▸ ho)
    rw [hd] at d; cases d) ho, hd, r⟩
  have hC : ∀ k v, s.heap.IsCell k v → h'.IsCell k v := fun k v ⟨o, ho, hd⟩ => ⟨o, hx _ _ (fun z => by
    obtain ⟨vs, d, _⟩ := ha o (z ▸ ho)
    rw [hd] at d; cases d) ho, hd⟩
  refine ⟨f.inv.foreign hx hf, f.ff.but hx fun e hE z => ?_, f.kp.but hx he, let ⟨m, h⟩ := f.ns; ⟨m, hL m h⟩, fun x k h => let ⟨v, h⟩ := f.cel x k h; ⟨v, hC k v h⟩, fun i pv h => ?_⟩
  · obtain ⟨_, L, o, es, n, hfr, _, ho, hd⟩ := f.ff e hE
    rw [hfr] at z; cases z
    obtain ⟨vs, d, _⟩ := ha o ho
    rw [hd] at d; cases d
  · obtain ⟨x, v, e, y, r⟩ := f.vars i pv h
    refine ⟨x, v, e, ?_, r.ks (hf.ks hx)⟩
    rcases y with ⟨q, m, b, e⟩ | ⟨q, k, b, e⟩
    · exact .inl ⟨q, m, hL m b, e⟩
    · exact .inr ⟨q, k, b, hC k _ e⟩
theorem Store.get_set {ρ : Store} {i j : Nat} {pv : PV} (hi : i < ρ.length) : Store.get (ρ.set i (some pv)) j = if j = i then some pv else ρ.get j := by
  unfold Store.get
  rw [List.getElem?_set]
  by_cases h : i = j
  · subst h; simp [hi]
  · rw [if_neg h, if_neg (Ne.symm h)]
theorem FrI.weak {c : Cx} {ρ : Store} {ω : Om} {s : Shared} (f : FrI c ρ ω s) : FrI c [] ω s := ⟨f.inv, f.ff, f.kp, f.ns, f.cel, fun i pv h => by simp [Store.get] at h⟩
noncomputable def StoreOk (c : Cx) (x : Str) : Prop := c.cs.names.lookup x = some .local ∨ (c.cs.names.lookup x = some .cell ∧ c.own = true ∧ (c.cl.lookup x).isSome = true)
/-- what a store keeps of namespaces: all but the name -/
structure NsBut (x : Str) (h h' : Heap) : Prop where
  ns : ∀ a m, h.Ns a m → ∃ m', h'.Ns a m' ∧ ∀ y, y ≠ x → m' y = m y
  recs : ∀ a o vs, h.get? a = some o → o.data = .fields vs → h'.get? a = some o
theorem FrI.store' {c : Cx} (O : c.Ok) {ρ : Store} {ω : Om} {s : Shared} (f : FrI c ρ ω s) {i : Nat} {x : Str} {pv : PV} {v : Value} (hx : c.vars[i]? = some x) (hi : i < ρ.length) (hk : StoreOk c x) (r : Vr c.bx s.heap pv v) {A : Around}
    {Q : Unit → Shared → Prop} {E : Value → Shared → Prop} (hQ : ∀ s', FrI c (ρ.set i (some pv)) ω s' → Kn c.bx s.heap s'.heap → NsBut x s.heap s'.heap → Q () s') : wpAny (model PRG c.w) A (storeName c.env x v) Q E s := by
  have other : ∀ j y, j ≠ i → c.vars[j]? = some y → y ≠ x := fun j y hj hy q => by
    subst q
    have hlt := (List.getElem?_eq_some_iff.mp hy).1
    exact hj ((List.getElem?_inj hlt O.nodup).mp (hy.trans hx.symm))
  rcases hk with hl | ⟨hl, ho, hs⟩
  · obtain ⟨m, hn⟩ := f.ns
    refine wpAny_storeName_local hl hn (fun h' hn' hs => ?_) (by show (c.cs.kind == .class || (c.cs.kind == .module && _)) = false; rw [O.kind]; rfl)
    obtain ⟨o, es, ep, hoL, hdL, hkeys, hff0⟩ := hn
    have hf : Foreign c.toSt s.heap c.L := ⟨O.newL, fun o' e => by rw [hoL] at e; cases e; exact .inr (.inl ⟨_, _, hdL⟩)⟩
    have ks := hf.ks hs.extBut
    have hC : ∀ k v, s.heap.IsCell k v → h'.IsCell k v := fun k v ⟨o, ho, hd⟩ => ⟨o, hs.extBut _ _ (fun z => by
      rw [show k = c.L from z, hoL] at ho; cases ho
      rw [hdL] at hd; cases hd) ho, hd⟩
    refine hQ _ ⟨f.inv.foreign hs.extBut hf, f.ff.but hs.extBut O.outL, f.kp.same hs O.heL, ⟨_, hn'⟩, fun x k h => let ⟨v, h⟩ := f.cel x k h; ⟨v, hC k v h⟩, fun j p h => ?_⟩ (.butNs hs.extBut hoL (.inl ⟨_, _, hdL⟩)) ⟨fun a m' hm' => ?nb1, fun a o' vs e d => (hs.2 a fun q => by rw [q] at e; rw [show s.heap.get? c.env.locals = some o from hoL] at e; cases e; rw [hdL] at d; cases d).trans e⟩
    case nb1 =>
      by_cases q : a = c.L
      · subst q
        refine ⟨_, hn', fun y hy => ?_⟩
        show (if y = x then some v else m y) = _
        rw [if_neg hy]
        obtain ⟨o', es', ep', ho', hd', _, hff⟩ := hm'
        rw [hoL] at ho'; cases ho'
        rw [hdL] at hd'; cases hd'
        rw [← hff0 y, hff y]
      · exact ⟨m', hm'.at fun o e => (hs.2 a q).trans e, fun _ _ => rfl⟩
    rw [Store.get_set hi] at h
    by_cases hj : j = i
    · subst hj
      rw [if_pos rfl] at h; cases h
      exact ⟨x, v, hx, .inl ⟨hl, _, hn', by simp⟩, r.ks ks⟩
    · rw [if_neg hj] at h
      obtain ⟨y, u, hy, ya, ru⟩ := f.vars j p h
      refine ⟨y, u, hy, ?_, ru.ks ks⟩
      have hne := other j y hj hy
      rcases ya with ⟨q, m', b, e⟩ | ⟨q, k, b, e⟩
      · refine .inl ⟨q, _, hn', ?_⟩
        show (if y = x then some v else m y) = some u
        rw [if_neg hne]
        obtain ⟨o', es', ep', ho', hd', _, hff⟩ := b
        rw [hoL] at ho'; cases ho'
        rw [hdL] at hd'; cases hd'
        rw [← hff0 y, hff y]; exact e
      · exact .inr ⟨q, k, b, hC k _ e⟩
  · obtain ⟨k, hc⟩ := Option.isSome_iff_exists.mp hs
    obtain ⟨v0, hcell⟩ := f.cel x k hc
    obtain ⟨kG, kL, kb, khe⟩ := O.cells x k hc
    refine wpAny_storeName_cell O.kind hl hc hcell fun h' hn' hs => ?_
    obtain ⟨o, hoc, hdc⟩ := hcell
    have hf : Foreign c.toSt s.heap k := ⟨kG, fun o' e => by rw [hoc] at e; cases e; exact .inr (.inr ⟨_, hdc⟩)⟩
    have ks := hf.ks hs.extBut
    have hL : ∀ m, s.heap.Ns c.L m → h'.Ns c.L m := fun m ⟨o', es, ep, ho', hd', r'⟩ => ⟨o', es, ep, hs.extBut _ _ (Ne.symm kL) ho', hd', r'⟩
    refine hQ _ ⟨f.inv.foreign (tk := s.toks) hs.extBut hf, f.ff.but hs.extBut fun e hE z => ?_, f.kp.same hs (khe ho), let ⟨m, h⟩ := f.ns; ⟨m, hL m h⟩, fun y k' h => ?_, fun j p h => ?_⟩ (.butNs hs.extBut hoc (.inr ⟨_, hdc⟩)) ⟨fun a m' hm' => ⟨m', ?nb2, fun _ _ => rfl⟩, fun a o' vs e d => (hs.2 a fun q => by rw [q, hoc] at e; cases e; rw [hdc] at d; cases d).trans e⟩
    case nb2 =>
      refine hm'.at fun o' e => (hs.2 a fun q => ?_).trans e
      obtain ⟨o2, es, ep, ho2, hd2, _⟩ := hm'
      rw [q, hoc] at ho2; cases ho2
      rw [hdc] at hd2; cases hd2
    · obtain ⟨_, L, o', es, n, hfr, _, ho', hd'⟩ := f.ff e hE
      rw [hfr] at z; cases z
      rw [hoc] at ho'; cases ho'
      rw [hdc] at hd'; cases hd'
    · by_cases q : k' = k
      · subst q; exact ⟨_, hn'⟩
      · obtain ⟨v, o', ho', hd'⟩ := f.cel y k' h
        exact ⟨v, o', hs.extBut _ _ q ho', hd'⟩
    · rw [Store.get_set hi] at h
      by_cases hj : j = i
      · subst hj
        rw [if_pos rfl] at h; cases h
        exact ⟨x, v, hx, .inr ⟨.inl hl, k, hc, hn'⟩, r.ks ks⟩
      · rw [if_neg hj] at h
        obtain ⟨y, u, hy, ya, ru⟩ := f.vars j p h
        refine ⟨y, u, hy, ?_, ru.ks ks⟩
        have hne := other j y hj hy
        rcases ya with ⟨q, m', b, e⟩ | ⟨q, k', b, e⟩
        · exact .inl ⟨q, m', hL _ b, e⟩
        · refine .inr ⟨q, k', b, ?_⟩
          obtain ⟨o', ho', hd'⟩ := e
          exact ⟨o', hs.extBut _ _ (fun z => hne (O.inj y x k (z ▸ b) hc)) ho', hd'⟩
theorem FrI.store {c : Cx} (O : c.Ok) {ρ : Store} {ω : Om} {s : Shared} (f : FrI c ρ ω s) {i : Nat} {x : Str} {pv : PV} {v : Value} (hx : c.vars[i]? = some x) (hi : i < ρ.length) (hk : StoreOk c x) (r : Vr c.bx s.heap pv v)
    {Q : Unit → Shared → Prop} {E : Value → Shared → Prop} (hQ : ∀ s', FrI c (ρ.set i (some pv)) ω s' → Kn c.bx s.heap s'.heap → Q () s') : wpAny (model PRG c.w) c.A (storeName c.env x v) Q E s :=
  f.store' O hx hi hk r fun s' f' k _ => hQ s' f' k
end Mine
end TextMH
section TextMI
open PySem PySem.W PySem.Calls PyProof.Rows
set_option Elab.async false
set_option linter.unusedVariables false
set_option maxRecDepth 100000
namespace Mine
/-- the judgement of a statement -/
noncomputable def SS (c : Cx) (t : Sem Flow) (ρ : Store) (ω : Om) (N : Store → Om → Prop) (R : PV → Om → Prop) (X : Str → Om → Prop) : Prop :=
  ∀ s (Q : Flow → Shared → Prop) (E : Value → Shared → Prop), FrI c ρ ω s →
    (∀ ρ' ω' s', N ρ' ω' → FrI c ρ' ω' s' → Kn c.bx s.heap s'.heap → Q .next s') →
    (∀ pv v ω' s', R pv ω' → FrI c [] ω' s' → Vr c.bx s'.heap pv v → Q (.ret v) s') →
    (∀ code ea ω' s', X code ω' → FrI c [] ω' s' → ExcAt c.G (c.env :: c.outer) s'.heap ea code → E (.ref ea) s') →
    wpAny (model PRG c.w) c.A t Q E s
section
variable {c : Cx} {ρ : Store} {ω : Om} {N : Store → Om → Prop} {R : PV → Om → Prop} {X : Str → Om → Prop}
theorem SS_nil (h : N ρ ω) : SS c (execs [] c.env) ρ ω N R X := fun s Q E f hN hR hE => wpAny_execs_nil (hN _ _ _ h f (.refl _ _))
theorem SS_cons {st : Stmt} {rest : List Stmt} (h : SS c (exec st c.env) ρ ω (fun ρ1 ω1 => SS c (execs rest c.env) ρ1 ω1 N R X) R X) : SS c (execs (st :: rest) c.env) ρ ω N R X := fun s Q E f hN hR hE =>
  wpAny_execs_cons (h s _ _ f (fun ρ1 ω1 s1 h1 f1 k1 => h1 s1 _ _ f1 (fun ρ' ω' s' n f k => hN ρ' ω' s' n f (k1.trans k)) hR hE) (fun pv v ω' s' r f rv => hR pv v ω' s' r f rv) hE)
theorem S_ret {e : Expr} {pos : Pos} (h : SE c e ρ ω R X) : SS c (exec (.Return (some e) pos) c.env) ρ ω N R X := fun s Q E f hN hR hE =>
  wpAny_Return_some (h s _ _ f (fun pv v ω' s' r i k rv => hR pv v ω' s' r (f.step i k).weak rv) fun code ea ω' s' x i k e => hE code ea ω' s' x (f.step i k).weak e)
noncomputable def notComp : Expr → Bool
  | .ListComp .. => false
  | .SetComp .. => false
  | .DictComp .. => false
  | _ => true
theorem swapsWith_false {value : Expr} {t : Option Expr} {line : Nat} {env : Env} (h : notComp value = true) : swapsWith value t line env = pure false := by
  cases value <;> first | rfl | exact Bool.noConfusion h
theorem S_asg (O : c.Ok) {i : Nat} {x : Str} {e : Expr} {px pos : Pos} (hx : c.vars[i]? = some x) (hk : StoreOk c x) (hc : notComp e = true) (hi : i < ρ.length)
    (h : SE c e ρ ω (fun v ω1 => N (ρ.set i (some v)) ω1) X) : SS c (exec (.Assign [.Name x px] e pos) c.env) ρ ω N R X := fun s Q E f hN hR hE =>
  wpAny_Assign_Name (h s _ _ f (fun pv v ω1 s1 hn i1 k1 r1 => (f.step i1 k1).store O hx hi hk r1 fun s' f' ks => hN _ _ _ hn f' (k1.kn.trans ks))
    fun code ea ω' s' x i k e => hE code ea ω' s' x (f.step i k).weak e) (swapsWith_false hc)
theorem S_aug (O : c.Ok) {i : Nat} {x : Str} {e : Expr} {op : Operator} {px pos : Pos} {pv : PV} (hx : c.vars[i]? = some x) (hk : StoreOk c x) (hn : plainName x = true) (hi : i < ρ.length) (hg : ρ.get i = some pv)
    (h : SE c e ρ ω (fun v ω1 => Iop op pv v fun r => N (ρ.set i (some r)) ω1) X) : SS c (exec (.AugAssign (.Name x px) op e pos) c.env) ρ ω N R X := fun s Q E f hN hR hE => by
  obtain ⟨x', v, e', y, r⟩ := f.vars i pv hg
  rw [hx] at e'; cases e'
  refine wpAny_AugAssign_Name (loadVar O y hn (h s _ _ f (fun pv' v' ω1 s1 hn i1 k1 r1 => Iop_sound hn (r.mono k1) r1 fun r' w tk hk' hr => ?_)
    fun code ea ω' s' x i k e => hE code ea ω' s' x (f.step i k).weak e))
  exact (f.step (i1.tok (tk := tk)) k1).store O hx hi hk (hr _) fun s' f' ks => hN _ _ _ hk' f' (k1.kn.trans ks)
theorem S_if {t : Expr} {a b : List Stmt} {pos : Pos} (h : ST c (isTrue t c.env (eval t c.env)) ρ ω (fun t ω1 => Br t (SS c (execs a c.env) ρ ω1 N R X) (SS c (execs b c.env) ρ ω1 N R X)) X) :
    SS c (exec (.If t a b pos) c.env) ρ ω N R X := fun s Q E f hN hR hE =>
  wpAny_If (h s _ _ f (fun t t' ω1 s1 hK i1 k1 r1 => by
    obtain rfl := r1
    cases t with
    | true => exact hK.1 rfl s1 _ _ (f.step i1 k1) (fun ρ' ω' s' n f k => hN ρ' ω' s' n f (k1.kn.trans k)) hR hE
    | false => exact hK.2 rfl s1 _ _ (f.step i1 k1) (fun ρ' ω' s' n f k => hN ρ' ω' s' n f (k1.kn.trans k)) hR hE) fun code ea ω' s' x i k e => hE code ea ω' s' x (f.step i k).weak e)
noncomputable abbrev XF : Str → Om → Prop := fun _ _ => False
theorem S_while {t : Expr} {b : List Stmt} {pos : Pos} (I : Store → Om → Prop) (μ : Store → Om → Nat) (h0 : I ρ ω)
    (turn : ∀ ρ ω, I ρ ω → ST c (isTrue t c.env (eval t c.env)) ρ ω (fun t ω1 => Br t (SS c (execs b c.env) ρ ω1 (fun ρ2 ω2 => I ρ2 ω2 ∧ μ ρ2 ω2 < μ ρ ω) R XF) (N ρ ω1)) XF) :
    SS c (exec (.While t b [] pos) c.env) ρ ω N R X := fun s Q E f hN hR hE => by
  refine wpAny_While (codeAny_whileLoop (fun n s' => ∃ ρ' ω', I ρ' ω' ∧ μ ρ' ω' = n ∧ FrI c ρ' ω' s' ∧ Kn c.bx s.heap s'.heap) (fun n s' ⟨ρ', ω', hI, hm, f', kn⟩ => ?_) (μ ρ ω) ⟨ρ, ω, h0, rfl, f, .refl _ _⟩)
  refine turn ρ' ω' hI s' _ _ f' (fun t t' ω1 s1 hK i1 k1 r1 => ?_) fun _ _ _ _ x => x.elim
  obtain rfl := r1
  cases t with
  | true => exact hK.1 rfl s1 _ _ (f'.step i1 k1) (fun ρ2 ω2 s2 n2 f2 k2 => ⟨_, hm ▸ n2.2, ρ2, ω2, n2.1, rfl, f2, (kn.trans k1.kn).trans k2⟩) (fun pv v ω2 s2 r2 f2 rv => hR pv v ω2 s2 r2 f2 rv) fun _ _ _ _ x => x.elim
  | false => exact wpAny_execs_nil (hN _ _ _ (hK.2 rfl) (f'.step i1 k1) (kn.trans k1.kn))
noncomputable def setAll : Store → List Nat → List PV → Store
  | ρ, i :: is, p :: ps => setAll (ρ.set i (some p)) is ps
  | ρ, _, _ => ρ
/-- stores into plain names, one behind the other -/
theorem storeAll (O : c.Ok) {Q : Unit → Shared → Prop} {E : Value → Shared → Prop} : ∀ {l : List (Nat × Str)} {ts : List (Value → Sem Unit)} {ps : List PV} {vs : List Value} {ρ : Store} {s : Shared}, FrI c ρ ω s →
    (∀ p ∈ l, c.vars[p.1]? = some p.2 ∧ p.1 < ρ.length ∧ StoreOk c p.2) → VrL c.bx s.heap ps vs → l.length = ps.length →
    (ts.length = l.length) → (∀ (k : Nat) (p : Nat × Str) (t : Value → Sem Unit), l[k]? = some p → ts[k]? = some t → ∀ v Q s, wpAny (model PRG c.w) c.A (storeName c.env p.2 v) Q E s → wpAny (model PRG c.w) c.A (t v) Q E s) →
    (∀ s', FrI c (setAll ρ (l.map (·.1)) ps) ω s' → Kn c.bx s.heap s'.heap → Q () s') → wpAny (model PRG c.w) c.A (assignInOrder ts vs) Q E s
  | [], ts, [], vs, ρ, s, f, hl, r, _, ht, _, hQ => by
    obtain rfl := vrl_nil.mp r
    rw [List.length_nil, List.length_eq_zero_iff] at ht; subst ht
    exact assignInOrder_nil (hQ _ f (.refl _ _))
  | p :: l, ts, [], vs, ρ, s, f, hl, r, hn, ht, _, hQ => by cases hn
  | [], ts, q :: ps, vs, ρ, s, f, hl, r, hn, ht, _, hQ => by cases hn
  | p :: l, [], q :: ps, vs, ρ, s, f, hl, r, hn, ht, _, hQ => by cases ht
  | p :: l, t :: ts, q :: ps, vs, ρ, s, f, hl, r, hn, ht, hs, hQ => by
    obtain ⟨v, vs', rfl, r1, r2⟩ := vrl_cons.mp r
    obtain ⟨h1, h2, h3⟩ := hl p (.head _)
    refine assignInOrder_cons (hs 0 p t rfl rfl v _ _ (f.store O h1 h2 h3 r1 fun s' f' kn => ?_))
    refine storeAll O f' (fun p' hp' => ?_) (r2.ks kn.ks) (by simpa using hn) (by simpa using ht) (fun k p' t' e1 e2 => hs (k + 1) p' t' (by simpa using e1) (by simpa using e2)) fun s2 f2 k2 => hQ s2 f2 (kn.trans k2)
    obtain ⟨a, b, d⟩ := hl p' (.tail _ hp')
    exact ⟨a, by rw [List.length_set]; exact b, d⟩
theorem draw_list {M : Model} {prog : Program} {w : World} {A : Around} {E : Value → Shared → Prop} {it t : Addr} {items : Array Value} (hne : t ≠ it) : ∀ (n i : Nat) (s : Shared) (Q : List Value → Shared → Prop), s.heap.IsListIter it t i → s.heap.IsList t items → i + n ≤ items.size →
    (∀ h', h'.IsListIter it t (i + n) → Heap.SameBut it s.heap h' → Q ((items.toList.drop i).take n) { s with heap := h' }) → wpAny (model prog w) A (draw (.ref it) n) Q E s
  | 0, i, s, Q, hit, _, _, hQ => by
    show wpAny _ _ (pure []) Q E s
    exact wpAny_pure (by simpa using hQ s.heap hit (Heap.SameBut.refl ..))
  | n + 1, i, s, Q, hit, ht, hle, hQ => by
    have hlt : i < items.size := by omega
    show wpAny _ _ (pyNext (.ref it) >>= _) Q E s
    refine wpAny_bind (wpAny_pyNext_list_item hit ht (x := items[i]) (by simp [hlt]) fun h₁ hit₁ hs₁ => ?_)
    refine wpAny_bind (wpAny_holding (draw_list (M := M) hne n (i + 1) _ _ hit₁ (ht.at fun o e => (hs₁.2 t hne).trans e) (by omega) fun h₂ hit₂ hs₂ => wpAny_pure ?_))
    have hd : items.toList.drop i = items[i] :: items.toList.drop (i + 1) := by simp [List.drop_eq_getElem_cons, hlt]
    have := hQ h₂ (by rw [show i + (n + 1) = i + 1 + n by omega]; exact hit₂) (hs₁.trans hs₂)
    rw [hd, List.take_succ_cons] at this
    exact this
theorem unpackItems_list {prog : Program} {w : World} {A : Around} {E : Value → Shared → Prop} {s : Shared} {t : Addr} {items : Array Value} {Q : List Value → Shared → Prop} (hh : A.handled = none) (ht : s.heap.IsList t items)
    (hQ : ∀ h', Heap.ExtBut s.heap.objs.size s.heap h' → Q items.toList { s with heap := h' }) : wpAny (model prog w) A (unpackItems (.ref t) items.size none) Q E s := by
  have hlt : t ≠ s.heap.objs.size := by obtain ⟨o, ho, _⟩ := ht; exact Nat.ne_of_lt (Heap.lt_size ho)
  have htp : ∀ o', (s.heap.push o').IsList t items := fun o' => ht.at fun o e => Heap.get?_push_of_some _ e
  unfold unpackItems
  refine wpAny_bind ?_
  · unfold notIterableAtAll
    refine wpAny_bind (wpAny_specialOf ht.typeIs slot_list_iter.lookup ?_)
    refine wpAny_pure ?_
    simp only [Bool.false_eq_true, if_false]
    refine wpAny_bind (wpAny_holding (wpAny_pyIter_list ht ?_))
    refine wpAny_bind (wpAny_holding (draw_list (M := model prog w) hlt items.size 0 _ _ ⟨_, Heap.get?_push_size _ rfl, rfl, rfl⟩ (htp _) (by omega) fun h₁ hit₁ hs₁ => ?_))
    have hall : List.take items.size (List.drop 0 items.toList) = items.toList := by
      rw [List.drop_zero]; exact List.take_of_length_le (by simp)
    rw [hall]
    rw [if_neg (by simp)]
    have ht₁ : h₁.IsList t items := (htp _).at fun o e => (hs₁.2 t hlt).trans e
    refine wpAny_bind (wpAny_holding (wpAny_pyNext_list_end hh hit₁ ht₁ (by simp) fun h₂ he₂ => ?_))
    simp only [Option.isSome_none, Bool.false_eq_true, if_false]
    refine wpAny_pure (hQ h₂ fun b o hb e => he₂ b o hb (hs₁.extBut b o hb (Heap.get?_push_of_some _ e)))
end
end Mine
end TextMI
section TextMJ
open PySem PySem.W PySem.Calls PyProof.Rows
set_option Elab.async false
set_option linter.unusedVariables false
set_option maxRecDepth 100000
namespace Mine
/-- a change to records of exceptions and tracebacks, and to frames' slots -/
structure Nt (G : Heap) (S bad : List Addr) (h h' : Heap) : Prop where
  stays : G.StaysIn h → G.StaysIn h'
  ex : ∀ b o, h.get? b = some o → b ∉ S → b ∉ bad → h'.get? b = some o
  up : ∀ b o, h.get? b = some o → b ∉ bad → ∃ sl, h'.get? b = some { o with slots := sl }
theorem Nt.refl (G : Heap) (S bad : List Addr) (h : Heap) : Nt G S bad h h := ⟨id, fun _ _ e _ _ => e, fun _ o e _ => ⟨o.slots, e⟩⟩
theorem Nt.trans {G : Heap} {S bad : List Addr} {h₁ h₂ h₃ : Heap} (x : Nt G S bad h₁ h₂) (y : Nt G S bad h₂ h₃) : Nt G S bad h₁ h₃ :=
  ⟨y.stays ∘ x.stays, fun b o e hs hb => y.ex b o (x.ex b o e hs hb) hs hb, fun b o e hb => let ⟨_, e₁⟩ := x.up b o e hb; let ⟨sl, e₂⟩ := y.up b _ e₁ hb; ⟨sl, e₂⟩⟩
/-- a place that may change: an exception of ours, a traceback's entry -/
noncomputable def BadAt (G h : Heap) (b : Addr) : Prop := G.get? b = none ∧ ∀ o, h.get? b = some o → (o.cls = .ref 34 ∨ o.cls = .type "traceback") ∧ ∃ vs, o.data = .fields vs ∧ ∀ q t, vs[1]? ≠ some (.str q t)
theorem Nt.kp {c : St} {S bad : List Addr} {h h' : Heap} (x : Nt c.G S bad h h') (hb : ∀ b ∈ bad, BadAt c.G h b) (hS : ∀ b ∈ S, ∀ o, h.get? b = some o → ∃ es n, o.data = .dict es n) : Kp c.bx h h' := by
  have ne : ∀ b o, h.get? b = some o → Keptd o → b ∉ bad := fun b o e hk q => by
    obtain ⟨hc, vs, hd, hn⟩ := (hb b q).2 o e
    rcases hk vs hd with ⟨_, k2, k3⟩ | ⟨s, t, k⟩
    · rcases hc with hc | hc
      · exact absurd hc k2
      · exact absurd hc k3
    · exact absurd k (hn s t)
  refine ⟨fun b o e _ hk => x.up b o e (ne b o e hk), fun b o e _ hk hd => x.ex b o e (fun z => ?_) (ne b o e hk)⟩
  obtain ⟨es, n, d⟩ := hS b z o e
  exact hd _ _ d
theorem TabI.nt {G h h' : Heap} {S bad : List Addr} (x : Nt G S bad h h') (hb : ∀ b ∈ bad, BadAt G h b) (hS : ∀ b ∈ S, ∀ o, h.get? b = some o → ∃ es n, o.data = .dict es n) {P : Addr} {q : Str} (T : TabI h P q) : TabI h' P q := by
  obtain ⟨ps, e, t, r⟩ := T
  refine ⟨ps, x.ex P _ e (fun z => ?_) (fun z => ?_), t, fun pos cv hc => ⟨(r pos cv hc).1, ?_⟩⟩
  · obtain ⟨es, n, d⟩ := hS P z _ e; cases d
  · obtain ⟨hc, _⟩ := (hb P z).2 _ e
    rcases hc with hc | hc <;> cases hc
  · obtain ⟨c', o, vs, tq, e1, e2, e3, e4⟩ := (r pos cv hc).2
    obtain ⟨sl, e5⟩ := x.up c' o e2 fun z => by
      obtain ⟨_, ws, hd, hn⟩ := (hb c' z).2 o e2
      rw [e3] at hd; cases hd
      exact hn _ _ e4
    exact ⟨c', _, vs, tq, e1, e5, e3, e4⟩
theorem Inv.nt {c : St} {ω : Om} {s : Shared} {h' : Heap} {tk : Nat} {S bad : List Addr} (i : Inv c ω s) (x : Nt c.G S bad s.heap h') (hb : ∀ b ∈ bad, BadAt c.G s.heap b) (hS : ∀ b ∈ S, ∀ o, s.heap.get? b = some o → ∃ es n, o.data = .dict es n) :
    Inv c ω { s with heap := h', toks := tk } where
  gens := i.gens
  os := i.os
  stays := x.stays i.stays
  tabA := i.tabA.nt x hb hS
  tabB := i.tabB.nt x hb hS
  bxs := by
    obtain ⟨o, vs, n, e, d⟩ := i.bxs
    obtain ⟨sl, e'⟩ := x.up c.bx o e fun z => by
      obtain ⟨_, ws, hd, hn⟩ := (hb _ z).2 o e
      rw [d] at hd; cases hd
    exact ⟨_, vs, n, e', d⟩
  box := fun b0 b1 q => by
    obtain ⟨g, o, n, t0, t1, e, hc, d⟩ := i.box b0 b1 q
    obtain ⟨sl, e'⟩ := x.up c.bx o e fun z => by
      obtain ⟨_, ws, hd, hn⟩ := (hb _ z).2 o e
      rw [d] at hd; cases hd
    exact ⟨g, _, n, t0, t1, e', hc, d⟩
theorem FF.dicts {G : Heap} {l : List Env} {h : Heap} (x : FF G l h) : ∀ b ∈ l.filterMap (·.frame), ∀ o, h.get? b = some o → ∃ es n, o.data = .dict es n := fun b hb o e => by
  obtain ⟨env, he, hf⟩ := List.mem_filterMap.mp hb
  obtain ⟨_, L, o', es, n, hf', _, ho, hd⟩ := x env he
  rw [hf] at hf'; cases hf'
  rw [e] at ho; cases ho
  exact ⟨es, n, hd⟩
theorem FF.news {G : Heap} {l : List Env} {h : Heap} (x : FF G l h) : ∀ b ∈ l.filterMap (·.frame), G.get? b = none := fun b hb => by
  obtain ⟨env, he, hf⟩ := List.mem_filterMap.mp hb
  obtain ⟨_, L, o', es, n, hf', hg, ho, hd⟩ := x env he
  rw [hf] at hf'; cases hf'
  exact hg
section
variable {M : Model} {A : Around} {E : Value → Shared → Prop} {s : Shared}
theorem note_entry {G : Heap} {env : Env} {outer : List Env} {L e : Addr} {oe : Obj} {vs : Array Value} {head : Value} {hadNext : Bool} {Q : Unit → Shared → Prop}
    (hfr : A.frames = some (env :: outer)) (ff : FF G (env :: outer) s.heap) (hf : env.frame = some L) (hG : G.get? e = none)
    (he : s.heap.get? e = some oe) (hd : oe.data = .fields vs) (hsz : 1 < vs.size)
    (h : ∀ h' T ts, Nt G ((env :: outer).filterMap (·.frame)) [e] s.heap h' → h'.get? e = some (oe.mapFields (·.setIfInBounds 1 (.ref T))) → s.heap.get? T = none → T ≠ e →
      h'.get? T = some { cls := .type "traceback", dict := none, data := .fields ts } → ts[3]? = some (rawInt L) → ts[1]? = some (.ref L) → Q () { s with heap := h' }) :
    wpAny M A (do let a ← frameOf env; let pl ← entryPlaceOf L hadNext; let b ← EntryCells.newEntry head a .none (rawInt L) .none pl; setField (.ref e) 1 b) Q E s := by
  have hl := FF.fun ff
  have hene : e ∉ (env :: outer).filterMap (·.frame) := fun hm => by
    obtain ⟨_, o, ho, hnf⟩ := hl.mem hm
    rw [he] at ho; injection ho with ho; subst ho; exact hnf vs hd
  refine wpAny_bind (wpAny_frameOf_fun hfr hl hf fun h₁ hs₁ => ?_)
  refine wpAny_bind (wpAny_entryPlaceOf fun pl hpl => ?_)
  unfold EntryCells.newEntry newFields
  refine wpAny_bind (wpAny_newObj_type ?_ (hpl.sizeOk5 _ _ _ _ _))
  have he₁ : h₁.get? e = some oe := (hs₁.2.1 e hene).trans he
  have he₂ := Heap.get?_push_of_some (h := h₁) { cls := .type "traceback", dict := none, data := .fields ([head, .ref L, .none, rawInt L, .none] ++ (if pl.isEmpty then List.replicate 6 Value.none else pl)).toArray } he₁
  refine wpAny_setField he₂ hd hsz ?_
  have hTe : h₁.objs.size ≠ e := Nat.ne_of_gt (Heap.lt_size he₁)
  have hd₃ := Obj.data_mapFields hd (·.setIfInBounds 1 (Value.ref h₁.objs.size))
  have keep : ∀ b o, b ≠ e → h₁.get? b = some o →
      ((h₁.push { cls := .type "traceback", dict := none, data := .fields ([head, .ref L, .none, rawInt L, .none] ++ (if pl.isEmpty then List.replicate 6 Value.none else pl)).toArray }).update e (Obj.mapFields (·.setIfInBounds 1 (Value.ref h₁.objs.size)))).get? b = some o :=
    fun b o hbe hb => by
      rw [Heap.get?_update_other _ _ (Ne.symm hbe)]
      exact Heap.get?_push_of_some _ hb
  refine h _ h₁.objs.size _ ⟨fun st b o hb => ?_, fun b o hb hS hbad => ?_, fun b o hb hbad => ?_⟩ (Heap.get?_update_self _ he₂ (Obj.isFreed_of_fields hd₃)) (Heap.get?_none_of_le (by rw [hs₁.1]; exact Nat.le_refl _)) hTe
    ((Heap.get?_update_other _ _ (Ne.symm hTe)).trans (Heap.get?_push_size h₁ rfl)) (by rcases hpl with rfl | ⟨_, _, _, _, _, _, _, rfl⟩ <;> simp) (by rcases hpl with rfl | ⟨_, _, _, _, _, _, _, rfl⟩ <;> simp)
  · refine keep b o (fun q => by rw [q, hG] at hb; cases hb) ((hs₁.2.1 b fun hm => by rw [ff.news b hm] at hb; cases hb).trans (st b o hb))
  · exact keep b o (fun q => hbad (q ▸ List.mem_singleton.mpr rfl)) ((hs₁.2.1 b hS).trans hb)
  · obtain ⟨sl, e₁⟩ := hs₁.2.2 b o hb
    exact ⟨sl, keep b _ (fun q => hbad (q ▸ List.mem_singleton.mpr rfl)) e₁⟩
end
theorem ns_upto {h h' : Heap} {a : Addr} {m : Str → Option Value} (hn : h.Ns a m) (k : ∀ o, h.get? a = some o → ∃ sl, h'.get? a = some { o with slots := sl }) : h'.Ns a m := by
  obtain ⟨o, es, ep, ho, hd, r⟩ := hn
  obtain ⟨sl, e⟩ := k o ho
  exact ⟨_, es, ep, e, hd, r⟩
theorem dict_mapFields (o : Obj) (f) : (o.mapFields f).dict = o.dict := by unfold Obj.mapFields; split <;> rfl
theorem ExcB.bad {G : Heap} {l : List Env} {h : Heap} {ea : Addr} {code : Str} {vs : Array Value} (x : ExcB G l h ea code vs) (hv : vs[1]? = some .none ∨ ∃ T, vs[1]? = some (.ref T)) : BadAt G h ea := by
  obtain ⟨g, oe, dx, m, t, he, hc, hx, hd, _⟩ := x
  refine ⟨g, fun o e => ?_⟩
  rw [he] at e; cases e
  refine ⟨.inl hc, vs, hd, fun q u z => ?_⟩
  rcases hv with hv | ⟨T, hv⟩ <;> rw [hv] at z <;> cases z
theorem ExcB.nsNe {G : Heap} {l : List Env} {h : Heap} {ea : Addr} {code : Str} {vs : Array Value} {dx b : Addr} {m : Str → Option Value} (hn : h.Ns dx m) (hb : BadAt G h b) : dx ≠ b := fun q => by
  obtain ⟨o, es, ep, ho, hd, _⟩ := hn
  obtain ⟨_, ws, hd', _⟩ := hb.2 o (q ▸ ho)
  rw [hd] at hd'; cases hd'
theorem note_exc {c : St} {A : Around} {M : Model} {E : Value → Shared → Prop} {ω : Om} {s : Shared} {env : Env} {outer : List Env} {L ea : Addr} {code : Str} {Q : Unit → Shared → Prop}
    (hfr : A.frames = some (env :: outer)) (ff : FF c.G (env :: outer) s.heap) (hf : env.frame = some L) (i : Inv c ω s) (x : ExcAt c.G (env :: outer) s.heap ea code)
    (hQ : ∀ h', Inv c ω { s with heap := h' } → Kp c.bx s.heap h' → ExcF c.G (env :: outer) h' ea code L → Q () { s with heap := h' }) : wpAny M A (noteFrame (.ref ea) env) Q E s := by
  obtain ⟨vs, xb, hv⟩ := x
  have hbad : BadAt c.G s.heap ea := xb.bad (hv.imp id fun ⟨T, _, _, h1, _⟩ => ⟨T, h1⟩)
  obtain ⟨g, oe, dx, m, t, he, hc, hx, hd, hsz, hn, hm⟩ := xb
  unfold noteFrame
  simp only [hf]
  -- what stands behind a new entry
  have fin : ∀ (h₀ h' : Heap) (T : Addr) (ts : Array Value) (bad : List Addr), (∀ b ∈ bad, BadAt c.G s.heap b) → Nt c.G ((env :: outer).filterMap (·.frame)) bad s.heap h' →
      h'.get? ea = some (oe.mapFields (·.setIfInBounds 1 (.ref T))) → s.heap.get? T = none → T ≠ ea → h'.get? T = some { cls := .type "traceback", dict := none, data := .fields ts } → ts[3]? = some (rawInt L) → ts[1]? = some (.ref L) → Q () { s with heap := h' } :=
    fun h₀ h' T ts bad hb nt e1 e2 e3 e4 e5 e6 => by
      refine hQ h' (i.nt nt hb ff.dicts) (nt.kp hb ff.dicts) ⟨vs.setIfInBounds 1 (.ref T), ⟨g, _, dx, m, t, e1, (Obj.cls_mapFields ..).trans hc, (dict_mapFields ..).trans hx, Obj.data_mapFields hd _, by simpa using hsz, ?_, hm⟩, T, _, ts, by simp [hsz], ?_, e3, e4, rfl, rfl, e5, fun q u z => by rw [e6] at z; cases z⟩
      · exact ns_upto hn fun o ho => nt.up dx o ho fun hm => ExcB.nsNe (l := []) (ea := 0) (code := Str.empty) (vs := #[]) hn (hb dx hm) rfl
      · cases q : c.G.get? T with
        | none => rfl
        | some o => have := i.stays _ _ q; rw [e2] at this; cases this
  rcases hv with h1 | ⟨T, oT, ts, h1, hgT, hTe, hT, hcT, hdT, h3, h4⟩
  · refine wpAny_bind (wpAny_field he hd h1 ?_)
    rw [if_neg (by decide)]
    exact note_entry hfr ff hf g he hd (by omega) fun h' T ts nt e1 e2 e3 e4 e5 e6 => fin h' h' T ts [ea] (fun b hb => (List.mem_singleton.mp hb) ▸ hbad) nt e1 e2 e3 e4 e5 e6
  · have hbT : BadAt c.G s.heap T := ⟨hgT, fun o e => by rw [hT] at e; cases e; exact ⟨.inr hcT, ts, hdT, h4⟩⟩
    refine wpAny_bind (wpAny_field he hd h1 ?_)
    rw [if_pos (show (Value.ref T != Value.none) = true from by simp)]
    refine wpAny_bind (wpAny_field hT hdT h3 ?_)
    rw [if_neg (show ¬ ((Value.none == rawInt L) = true) from by simp [rawInt])]
    refine wpAny_bind (wpAny_setField hT hdT (Array.getElem?_eq_some_iff.mp h3).1 ?_)
    have other : ∀ b, b ≠ T → (s.heap.update T (Obj.mapFields (·.setIfInBounds 3 Value.none))).get? b = s.heap.get? b := fun b hb => Heap.get?_update_other _ _ (Ne.symm hb)
    have nt0 : Nt c.G ((env :: outer).filterMap (·.frame)) [ea, T] s.heap (s.heap.update T (Obj.mapFields (·.setIfInBounds 3 Value.none))) :=
      ⟨fun st b o e => (other b fun q => by rw [q, hgT] at e; cases e).trans (st b o e), fun b o e _ hb => (other b fun q => hb (by simp [q])).trans e, fun b o e hb => ⟨o.slots, (other b fun q => hb (by simp [q])).trans e⟩⟩
    have kT : Kp c.bx s.heap (s.heap.update T (Obj.mapFields (·.setIfInBounds 3 Value.none))) := nt0.kp (hS := ff.dicts) fun b hb => by
      rcases List.mem_cons.mp hb with rfl | hb
      · exact hbad
      · exact (List.mem_singleton.mp hb) ▸ hbT
    refine note_entry hfr (ff.step i kT) hf g ((other ea (Ne.symm hTe)).trans he) hd (by omega) fun h' T' ts' nt e1 e2 e3 e4 e5 e6 => ?_
    have hTT : T' ≠ T := fun q => by
      rw [q, Heap.get?_update_self _ hT (Obj.isFreed_of_fields (Obj.data_mapFields hdT _))] at e2; cases e2
    refine fin h' h' T' ts' [ea, T] (fun b hb => ?_) (nt0.trans ⟨nt.stays, fun b o e hS hb => nt.ex b o e hS fun q => hb (by simp at q ⊢; exact .inl q), fun b o e hb => nt.up b o e fun q => hb (by simp at q ⊢; exact .inl q)⟩) e1 ((other T' hTT).symm.trans e2) e3 e4 e5 e6
    rcases List.mem_cons.mp hb with rfl | hb
    · exact hbad
    · exact (List.mem_singleton.mp hb) ▸ hbT
/-- the flight's mark taken off, from whatever it is -/
theorem flight_exc {c : St} {A : Around} {M : Model} {E : Value → Shared → Prop} {ω : Om} {s : Shared} {l : List Env} {ea : Addr} {code : Str} {fl : Value} {Q : Unit → Shared → Prop}
    (ff : FF c.G l s.heap) (i : Inv c ω s) (x : ∃ vs, ExcB c.G l s.heap ea code vs ∧ ExcT c.G s.heap ea vs fl)
    (hQ : ∀ h', Inv c ω { s with heap := h' } → Kp c.bx s.heap h' → ExcAt c.G l h' ea code → Q () { s with heap := h' }) : wpAny M A (setFlight (.ref ea) none) Q E s := by
  obtain ⟨vs, xb, T, oT, ts, h1, hgT, hTe, hT, hcT, hdT, h3, h4⟩ := x
  obtain ⟨g, oe, dx, m, t, he, hc, hx, hd, hsz, hn, hm⟩ := xb
  have hbT : BadAt c.G s.heap T := ⟨hgT, fun o e => by rw [hT] at e; cases e; exact ⟨.inr hcT, ts, hdT, h4⟩⟩
  have hsz3 := (Array.getElem?_eq_some_iff.mp h3).1
  have other : ∀ b, b ≠ T → (s.heap.update T (Obj.mapFields (·.setIfInBounds 3 ((none : Option Addr).elim Value.none fun f => rawInt f)))).get? b = s.heap.get? b := fun b hb => Heap.get?_update_other _ _ (Ne.symm hb)
  have nt0 : Nt c.G (l.filterMap (·.frame)) [T] s.heap (s.heap.update T (Obj.mapFields (·.setIfInBounds 3 ((none : Option Addr).elim Value.none fun f => rawInt f)))) :=
    ⟨fun st b o e => (other b fun q => by rw [q, hgT] at e; cases e).trans (st b o e), fun b o e _ hb => (other b fun q => hb (by simp [q])).trans e, fun b o e hb => ⟨o.slots, (other b fun q => hb (by simp [q])).trans e⟩⟩
  have hb : ∀ b ∈ [T], BadAt c.G s.heap b := fun b hb => (List.mem_singleton.mp hb) ▸ hbT
  unfold setFlight
  refine wpAny_bind (wpAny_field he hd h1 ?_)
  rw [if_pos (show (Value.ref T != Value.none) = true from by simp)]
  refine wpAny_setField hT hdT hsz3 (hQ _ (i.nt nt0 hb ff.dicts) (nt0.kp hb ff.dicts) ⟨vs, ⟨g, oe, dx, m, t, (other ea (Ne.symm hTe)).trans he, hc, hx, hd, hsz, ?_, hm⟩, .inr ⟨T, _, _, h1, hgT, hTe, Heap.get?_update_self _ hT (Obj.isFreed_of_fields (Obj.data_mapFields hdT _)), (Obj.cls_mapFields ..).trans hcT, Obj.data_mapFields hdT _, by simp [hsz3], fun q u z => h4 q u (by
    rw [Array.getElem?_setIfInBounds_ne (by decide)] at z; exact z)⟩⟩)
  exact ns_upto hn fun o ho => nt0.up dx o ho fun hm => ExcB.nsNe (l := []) (ea := 0) (code := Str.empty) (vs := #[]) hn (hb dx hm) rfl
theorem flight_excAt {c : St} {A : Around} {M : Model} {E : Value → Shared → Prop} {ω : Om} {s : Shared} {l : List Env} {ea : Addr} {code : Str} {Q : Unit → Shared → Prop}
    (ff : FF c.G l s.heap) (i : Inv c ω s) (x : ExcAt c.G l s.heap ea code)
    (hQ : ∀ h', Inv c ω { s with heap := h' } → Kp c.bx s.heap h' → ExcAt c.G l h' ea code → Q () { s with heap := h' }) : wpAny M A (setFlight (.ref ea) none) Q E s := by
  obtain ⟨vs, xb, hv⟩ := x
  rcases hv with h1 | ht
  · obtain ⟨g, oe, dx, m, t, he, hc, hx, hd, hsz, hn, hm⟩ := id xb
    unfold setFlight
    refine wpAny_bind (wpAny_field he hd h1 ?_)
    rw [if_neg (by decide)]
    exact wpAny_pure (hQ _ i (.refl _ _) ⟨vs, xb, .inl h1⟩)
  · exact flight_exc ff i ⟨vs, xb, ht⟩ hQ
theorem ExcB.mono {G : Heap} {l l' : List Env} {h : Heap} {ea : Addr} {code : Str} {vs : Array Value} (x : ExcB G l h ea code vs) (hs : ∀ e ∈ l', e ∈ l) : ExcB G l' h ea code vs := x
theorem ExcAt.mono {G : Heap} {l l' : List Env} {h : Heap} {ea : Addr} {code : Str} (x : ExcAt G l h ea code) (hs : ∀ e ∈ l', e ∈ l) : ExcAt G l' h ea code :=
  let ⟨vs, xb, hv⟩ := x; ⟨vs, xb.mono hs, hv⟩
/-- an exception leaves a frame -/
theorem leaves_exc {c : St} {A : Around} {M : Model} {E : Value → Shared → Prop} {ω : Om} {s : Shared} {env : Env} {outer : List Env} {L ea : Addr} {code : Str} {Q : Unit → Shared → Prop}
    (hfr : A.frames = some (env :: outer)) (ff : FF c.G (env :: outer) s.heap) (hf : env.frame = some L) (i : Inv c ω s) (x : ExcAt c.G (env :: outer) s.heap ea code)
    (hQ : ∀ h', Inv c ω { s with heap := h' } → Kp c.bx s.heap h' → ExcAt c.G outer h' ea code → Q () { s with heap := h' }) : wpAny M A (leaving env (.ref ea)) Q E s := by
  unfold leaving
  refine wpAny_bind (note_exc hfr ff hf i x fun h' i1 k1 x1 => ?_)
  exact flight_exc (ff.step i k1) i1 x1 fun h'' i2 k2 x2 => hQ h'' i2 (k1.trans k2) (x2.mono fun e he => .tail _ he)
end Mine
end TextMJ
section TextMK
open PySem PySem.W PySem.Calls PyProof.Rows
set_option Elab.async false
set_option linter.unusedVariables false
set_option maxRecDepth 100000
namespace Mine
theorem lookup_append_some {α β : Type} [BEq α] {l r : List (α × β)} {x : α} {v : β} (h : l.lookup x = some v) : (l ++ r).lookup x = some v := by
  induction l with
  | nil => cases h
  | cons p l ih =>
    obtain ⟨a, b⟩ := p
    rw [List.cons_append, List.lookup_cons] at *
    cases q : (x == a) with
    | true => rw [q] at h; simpa using h
    | false => rw [q] at h; simp only at h ⊢; exact ih h
theorem lookup_append_none {α β : Type} [BEq α] {l r : List (α × β)} {x : α} (h : l.lookup x = none) : (l ++ r).lookup x = r.lookup x := by
  induction l with
  | nil => rfl
  | cons p l ih =>
    obtain ⟨a, b⟩ := p
    rw [List.cons_append, List.lookup_cons] at *
    cases q : (x == a) with
    | true => rw [q] at h; cases h
    | false => rw [q] at h; simp only at h ⊢; exact ih h
theorem lookup_none_of {β : Type} : ∀ {l : List (Str × β)} {x : Str}, x ∉ l.map (·.1) → l.lookup x = none
  | [], _, _ => rfl
  | (a, b) :: l, x, h => by
    rw [List.lookup_cons, show (x == a) = false from beq_eq_false_iff_ne.mpr fun q => h (by simp [q])]
    exact lookup_none_of fun q => h (by simp at q ⊢; exact .inr q)
theorem zip_map_fst_sub {xs : List Str} {vs : List Value} {x : Str} (h : x ∈ (xs.zip vs).map (·.1)) : x ∈ xs := by
  obtain ⟨p, hp, rfl⟩ := List.mem_map.mp h
  exact (List.of_mem_zip hp).1
theorem lookup_zip_rev : ∀ {xs : List Str} {vs : List Value} {i : Nat} {x : Str} {v : Value}, xs.Nodup → xs[i]? = some x → vs[i]? = some v → (xs.zip vs).reverse.lookup x = some v
  | [], _, i, x, v, _, h, _ => by simp at h
  | _ :: _, [], i, x, v, _, _, h => by simp at h
  | a :: xs, u :: vs, i, x, v, hn, hx, hv => by
    rw [List.zip_cons_cons, List.reverse_cons]
    rw [List.nodup_cons] at hn
    cases i with
    | zero =>
      simp at hx hv; subst hx hv
      rw [lookup_append_none (lookup_none_of fun q => hn.1 (by rw [List.map_reverse, List.mem_reverse] at q; exact zip_map_fst_sub q))]
      simp
    | succ i =>
      simp at hx hv
      exact lookup_append_some (lookup_zip_rev hn.2 hx hv)
noncomputable def scopeOk (sc : Scope) (xs : List Str) : Bool :=
  sc.kind == .function && !sc.isCoroutine && !sc.isGenerator && (sc.names.all fun p => p.2 != .cell) && (xs.all fun x => sc.names.lookup x == some .local) && decide xs.Nodup
section
variable {c : Cx} {ρ : Store} {ω : Om} {K : PV → Om → Prop} {X : Str → Om → Prop}
theorem FrI.Lsize (f : FrI c ρ ω s) : c.L < s.heap.objs.size := let ⟨_, h⟩ := f.ns; h.lt
theorem FrI.frameLt (f : FrI c ρ ω s) (O : c.Ok) : ∀ e ∈ c.env :: c.outer, ∀ L, e.frame = some L → L < s.heap.objs.size := fun e he L hL => by
  obtain ⟨_, L', o, es, n, hf, _, ho, _⟩ := f.ffAll O e he
  rw [hL] at hf; cases hf
  exact Heap.lt_size ho
/-- a call of a def without cells of its own, at a state -/
theorem call_def_at (O : c.Ok) {s : Shared} (f : FrI c ρ ω s) {fa : Addr} {o : Obj} {name qual : Str} {params : Arguments} {body : List Stmt} {scope : Scope} {dV kV doc pm cdv ct : Value} {an : Option Addr} {xs ys : List Str} {ps : List PV} {vs : List Value} {Q E : Value → Shared → Prop}
    (ho : s.heap.get? fa = some o) (hd : o.data = .func (fnX name qual params body scope [] dV kV doc pm an cdv ct)) (hcd : s.heap.CodeRec cdv qual)
    (hdp : 1 ≤ c.d) (hps : ps.length = xs.length) (hbind : ∀ vs : List Value, vs.length = xs.length → bindArgs (fnX name qual params body scope [] dV kV doc pm an cdv ct) ⟨vs, []⟩ = pure (xs.zip vs))
    (hsc : scopeOk scope (xs ++ ys) = true) (rl : VrL c.bx s.heap ps vs)
    (hQ : ∀ b a ω' s', K b ω' → Inv c.toSt ω' s' → Kp c.bx s.heap s'.heap → Vr c.bx s'.heap b a → Q a s')
    (hE : ∀ code ea ω' s', X code ω' → Inv c.toSt ω' s' → Kp c.bx s.heap s'.heap → ExcAt c.G (c.env :: c.outer) s'.heap ea code → E (.ref ea) s')
    (h : ∀ c' : Cx, c'.Ok → c'.toSt = c.toSt → c'.d + 1 = c.d → c'.cs = scope → c'.vars = xs ++ ys → c'.own = false → c'.cl = [] → c'.he = s.heap → c'.outer = c.env :: c.outer →
      SS c' (execs body c'.env) (ps.map some ++ ys.map fun _ => none) ω (fun _ ω' => K .non ω') K X) :
    wpAny (model PRG c.w) c.A (call (.ref fa) vs) Q E s := by
  simp only [scopeOk, Bool.and_eq_true, Bool.not_eq_true', beq_iff_eq, decide_eq_true_eq] at hsc
  obtain ⟨⟨⟨⟨⟨hk, hco⟩, hgen⟩, hcell⟩, hloc⟩, hnd⟩ := hsc
  rw [List.all_eq_true] at hcell hloc
  have hlen := vrl_len rl
  refine wpAny_call (codeAny_call_def (fd := fnX name qual params body scope [] dV kV doc pm an cdv ct) (body := body) (binds := xs.zip vs) (by have := O.depth; omega) ho hd (f.inv.noLimit O.st) hcd rfl (.of_eq (hbind vs (by omega)))
    (fun x hx q => by have := hcell x hx; rw [q] at this; cases this) (fun x hx => by simpa using hloc x.1 (List.mem_append_left _ (List.of_mem_zip hx).1)) (fun h₀ hns hk₀ => ?_) hco hgen hk)
  have hfr := f.frameLt O
  let c' : Cx := { c with A := c.A.deeper (envX qual scope s.heap.objs.size fa cdv []), d := c.d - 1, cn := qual, cs := scope, L := s.heap.objs.size, a := fa, ccd := cdv, cl := [], outer := c.env :: c.outer, he := s.heap, vars := xs ++ ys, own := false }
  have O' : c'.Ok := {
    st := O.st
    hand := O.hand
    frames := by show (c.A.frames.map _) = _; rw [O.frames]; rfl
    guards := O.guards
    depth := by show c.A.depth + 1 + (c.d - 1) < _; have := O.depth; omega
    units := by show c.A.units + 3 + 20 * (c.d - 1) < _; have := O.units; omega
    kind := hk
    above := Nat.le_trans O.above (Nat.le_of_lt f.Lsize)
    heL := Heap.get?_none_of_le (Nat.le_refl _)
    cells := fun x k e => by cases e
    inj := fun x y k e => by cases e
    outL := fun e he q => absurd (hfr e he _ q) (Nat.lt_irrefl _)
    nodup := hnd }
  have F' : FrI c' (ps.map some ++ ys.map fun _ => none) ω { s with heap := h₀, toks := s.toks + (xs.zip vs).length } := {
    inv := f.inv.ext hk₀
    ff := (f.ffAll O).step f.inv (.of_keeps hk₀)
    kp := .of_keeps hk₀
    ns := ⟨_, hns⟩
    cel := fun x k e => by cases e
    vars := fun i pv e => by
      have hi : i < ps.length := by
        by_cases q : i < ps.length
        · exact q
        · unfold Store.get at e
          rw [List.getElem?_append_right (by simpa using Nat.le_of_not_lt q)] at e
          split at e
          · rename_i o ho
            rw [List.getElem?_map] at ho
            cases hy : ys[i - (ps.map some).length]? <;> rw [hy] at ho <;> simp at ho
            subst ho; cases e
          · cases e
      have hp : ps[i]? = some pv := by
        unfold Store.get at e
        rw [List.getElem?_append_left (by simpa using hi), List.getElem?_map, List.getElem?_eq_getElem hi] at e
        rw [List.getElem?_eq_getElem hi]
        exact e
      obtain ⟨v, hv, rv⟩ := vrl_get rl hp
      have hx : i < xs.length := by omega
      refine ⟨xs[i], v, by show (xs ++ ys)[i]? = _; rw [List.getElem?_append_left hx, List.getElem?_eq_getElem hx], .inl ⟨?_, _, hns, ?_⟩, rv.mono (.of_keeps hk₀)⟩
      · simpa using hloc xs[i] (List.mem_append_left _ (List.getElem_mem hx))
      · exact lookup_zip_rev (List.nodup_append.mp hnd).1 (List.getElem?_eq_getElem hx) hv }
  refine h c' O' rfl (by show c.d - 1 + 1 = c.d; omega) rfl rfl rfl rfl rfl rfl _ _ _ F' (fun ρ' ω' s' n f' k => ?_) (fun pv v ω' s' r f' rv => ?_) fun code ea ω' s' x f' xe => ?_
  · exact hQ _ _ ω' s' n f'.inv f'.kp (by unfold Vr; rfl)
  · exact hQ _ _ ω' s' r f'.inv f'.kp rv
  · exact leaves_exc (c := c.toSt) O'.frames (f'.ffAll O') rfl f'.inv xe fun h' i' k' x' => hE code ea ω' _ x i' (f'.kp.trans k') x'
theorem CallJ_def (O : c.Ok) {a : Addr} {name qual : Str} {params : Arguments} {body : List Stmt} {scope : Scope} {dV kV doc pm cdv ct oc : Value} {an od : Option Addr} {osl : Array (Option Value)} {xs ys : List Str} {ps : List PV}
    (ho : (hd.heap_39 c.w.params).lookup a = some ⟨oc, od, .func (fnX name qual params body scope [] dV kV doc pm an cdv ct), osl⟩) (hcd : codeIn (hd.heap_39 c.w.params) cdv qual = true)
    (hbind : ∀ vs : List Value, vs.length = xs.length → bindArgs (fnX name qual params body scope [] dV kV doc pm an cdv ct) ⟨vs, []⟩ = pure (xs.zip vs))
    (hsc : scopeOk scope (xs ++ ys) = true) (hdp : 1 ≤ c.d) (hps : ps.length = xs.length)
    (h : ∀ c' : Cx, c'.Ok → c'.d + 1 = c.d → c'.cs = scope → c'.vars = xs ++ ys →
      SS c' (execs body c'.env) (ps.map some ++ ys.map fun _ => none) ω (fun _ ω' => K .non ω') K X) : CallJ c (.adr a) ps ρ ω K X := fun s Q E fv vs f r rl hQ hE => by
  obtain rfl := vr_adr.mp r
  exact call_def_at O f (f.inv.stays _ _ (O.st.X _ _ ho)) rfl (codeRec_of (O.st.X.keeps f.inv.stays) hcd) hdp hps hbind hsc rl hQ hE fun c' O' _ hd' hcs hv _ _ _ _ => h c' O' hd' hcs hv
end
end Mine
end TextMK
section TextML
open PySem PySem.W PySem.Calls PyProof.Rows
set_option Elab.async false
set_option linter.unusedVariables false
set_option maxRecDepth 100000
namespace Mine
theorem Kp.noK {bx a : Addr} {h₀ h : Heap} (x : Kp bx h₀ h) (ha : h.get? a = none) : ∀ o, h₀.get? a = some o → a ≠ bx → Keptd o → False := fun o e hb hk => by
  obtain ⟨sl, e₁⟩ := x.up a o e hb hk
  rw [ha] at e₁; cases e₁
section
variable {c : Cx} {ρ : Store} {ω : Om} {K : PV → Om → Prop} {X : Str → Om → Prop} {N : Store → Om → Prop} {R : PV → Om → Prop}
/-- a place made behind a state: nothing elder hangs on it -/
structure Own (c : Cx) (a : Addr) : Prop where
  g : c.G.get? a = none
  he : ∀ o, c.he.get? a = some o → a ≠ c.bx → Keptd o → False
theorem FrI.fresh (f : FrI c ρ ω s) : Own c s.heap.objs.size := by
  have h := Heap.get?_none_of_le (h := s.heap) (Nat.le_refl _)
  refine ⟨?_, f.kp.noK h⟩
  cases q : c.G.get? s.heap.objs.size with
  | none => rfl
  | some o => have := f.inv.stays _ _ q; rw [h] at this; cases this
/-- a record of no exception and no code: an iterator, a slice -/
noncomputable def Rec (o : Obj) : Prop := ∃ vs, o.data = .fields vs ∧ o.cls ≠ .none ∧ o.cls ≠ .ref 34 ∧ o.cls ≠ .type "traceback" ∧ ∀ q t, vs[1]? ≠ some (.str q t)
theorem Rec.kept {o : Obj} (r : Rec o) : Keptd o := fun vs e => by
  obtain ⟨ws, d, a, b, k, _⟩ := r
  rw [d] at e; cases e
  exact .inl ⟨a, b, k⟩
theorem Rec.ne {bx : Addr} {o : Obj} {c : St} {ω : Om} {s : Shared} {a : Addr} (r : Rec o) (i : Inv c ω s) (e : s.heap.get? a = some o) : a ≠ c.bx := i.neBx e fun vs n q => by
  obtain ⟨ws, d, _⟩ := r
  rw [d] at q; cases q
theorem FrI.turn (f : FrI c ρ ω s) {a : Addr} {o : Obj} (ow : Own c a) (e : s.heap.get? a = some o) (r : Rec o) {h' : Heap} (hx : Heap.ExtBut a s.heap h') {tk : Nat} : FrI c ρ ω { s with heap := h', toks := tk } :=
  f.foreign hx ow.g ow.he fun o' e' => by
    rw [e] at e'; cases e'
    obtain ⟨ws, d, k, _, _, k2⟩ := r
    exact ⟨ws, d, k, k2⟩
/-- what a loop over items asks -/
noncomputable def ForP (c : Cx) (i : Nat) (body : List Stmt) (N : Store → Om → Prop) (R : PV → Om → Prop) : List PV → Store → Om → Prop
  | [], ρ, ω => N ρ ω
  | p :: ps, ρ, ω => i < ρ.length ∧ SS c (execs body c.env) (ρ.set i (some p)) ω (fun ρ' ω' => ForP c i body N R ps ρ' ω') R XF
theorem vrl_drop {bx h} : ∀ {ps : List PV} {vs : List Value} {k : Nat}, VrL bx h ps vs → VrL bx h (ps.drop k) (vs.drop k)
  | ps, vs, 0, r => by simpa using r
  | [], vs, k + 1, r => by rw [vrl_nil.mp r]; simp; exact vrl_nil.mpr rfl
  | p :: ps, vs, k + 1, r => by
    obtain ⟨v, t, rfl, r1, r2⟩ := vrl_cons.mp r
    simpa using vrl_drop (k := k) r2
theorem Kn.rec (k : Kn bx h h') {a : Addr} {o : Obj} (e : h.get? a = some o) (hb : a ≠ bx) (r : Rec o) : h'.get? a = some o := by
  obtain ⟨ws, d, _⟩ := id r
  exact k a o e hb r.kept (fun es n q => by rw [d] at q; cases q) fun v q => by rw [d] at q; cases q
theorem Kn.seq (k : Kn bx h h') {a : Addr} {o : Obj} {vs n} (e : h.get? a = some o) (hb : a ≠ bx) (d : o.data = .seq vs n) : h'.get? a = some o :=
  k a o e hb (.seq d) (fun es n q => by rw [d] at q; cases q) fun v q => by rw [d] at q; cases q
theorem S_for_tup (O : c.Ok) {i : Nat} {x : Str} {px pos : Pos} {iter : Expr} {body : List Stmt} (hx : c.vars[i]? = some x) (hk : StoreOk c x) (hs : ∀ v, foldedSetIterable iter c.env v = pure v)
    (h : SE c iter ρ ω (fun v ω1 => ∃ ps, v = .tup ps ∧ ForP c i body N R ps ρ ω1) X) : SS c (exec (.For (.Name x px) iter body [] pos) c.env) ρ ω N R X := fun s Q E f hN hR hE => by
  refine wpAny_For (h s _ _ f (fun pv v ω1 s1 hp i1 k1 r1 => ?_) fun code ea ω' s' x i k e => hE code ea ω' s' x (f.step i k).weak e) hs
  obtain ⟨ps, rfl, hp⟩ := hp
  obtain ⟨t, ot, vs, n, rfl, htb, hot, hct, hdt, hl⟩ := vr_tup.mp r1
  have f1 := f.step i1 k1
  refine iter_tuple ⟨ot, hot, hct, n, hdt⟩ ?_
  have ow := f1.fresh
  have pk : ∀ b o, s1.heap.get? b = some o → (s1.heap.push { cls := .type "tuple_iterator", data := .fields #[.ref t, .int 0 0] }).get? b = some o := push_keeps
  refine codeAny_forLoop (fun m s' => ∃ k ρ' ω', m = (ps.length - k) ∧ k ≤ ps.length ∧ FrI c ρ' ω' s' ∧ IsTupIter s'.heap s1.heap.objs.size t k ∧ (∃ o', s'.heap.get? t = some o' ∧ o'.cls = .type "tuple" ∧ o'.data = .seq vs n) ∧ VrL c.bx s'.heap ps vs.toList ∧ Kn c.bx s1.heap s'.heap ∧ ForP c i body N R (ps.drop k) ρ' ω') ?_ ps.length
    ⟨0, ρ, ω1, by simp, Nat.zero_le _, f1.ext pk, ⟨_, Heap.get?_push_size _ rfl, rfl, rfl⟩, ⟨ot, pk _ _ hot, hct, hdt⟩, hl.mono (.of_keeps pk), (Kp.of_keeps pk).kn, by simpa using hp⟩
  rintro m s' ⟨k, ρ', ω', rfl, hle, f', hit, ⟨o', ho', hc', hd'⟩, hl', kn', hP⟩
  have hlen : vs.size = ps.length := by have := vrl_len hl; simpa using this
  have hisz : s1.heap.objs.size ≠ t := Nat.ne_of_gt (Heap.lt_size hot)
  obtain ⟨oi, hoi, hci, hdi⟩ := id hit
  have hrec : ∀ (o : Obj), o.cls = .type "tuple_iterator" → (∃ v j, o.data = .fields #[v, .int j 0]) → Rec o := fun o hc ⟨v, j, hd⟩ =>
    ⟨_, hd, by rw [hc]; simp, by rw [hc]; simp, by rw [hc]; simp, fun q t z => by simp at z⟩
  have hrc := hrec oi hci ⟨_, _, hdi⟩
  by_cases hk' : k < ps.length
  · have hdr : ps.drop k = ps[k] :: ps.drop (k + 1) := List.drop_eq_getElem_cons hk'
    rw [hdr] at hP
    obtain ⟨hi, hbody⟩ := hP
    refine next_tuple_item hit ⟨o', ho', hc', n, hd'⟩ (x := vs[k]'(by omega)) (by simp [hlen, hk']) fun h₁ hit₁ hs₁ => ?_
    have f₁ : FrI c ρ' ω' { s' with heap := h₁ } := f'.turn (tk := s'.toks) ow hoi hrc hs₁.extBut
    have hl₁ : VrL c.bx h₁ ps vs.toList := hl'.ks (Foreign.ks (c := c.toSt) hs₁.extBut ⟨ow.g, fun o e => by
      rw [hoi] at e; cases e
      obtain ⟨ws, d, a, _, _, b⟩ := hrc
      exact .inl ⟨ws, d, a, b⟩⟩)
    have kn₁ : Kn c.bx s1.heap h₁ := kn'.but hs₁.extBut (Heap.get?_none_of_le (Nat.le_refl _))
    have ht₁ : h₁.get? t = some o' := (hs₁.2 t hisz.symm).trans ho'
    obtain ⟨u, hu, ru⟩ := vrl_get hl₁ (List.getElem?_eq_getElem hk')
    have hu' : u = vs[k]'(by omega) := by
      rw [Array.getElem?_toList, Array.getElem?_eq_getElem (by omega)] at hu
      exact (Option.some.inj hu).symm
    refine wpAny_assign_Name (f₁.store O hx hi hk (hu' ▸ ru) fun s₂ f₂ kn₂ => ?_)
    have hit₂ : IsTupIter s₂.heap s1.heap.objs.size t (k + 1) := by
      obtain ⟨o, ho, hc, hd⟩ := hit₁
      exact ⟨o, kn₂.rec ho (Rec.ne (bx := c.bx) (hrec o hc ⟨_, _, hd⟩) f₁.inv ho) (hrec o hc ⟨_, _, hd⟩), hc, hd⟩
    have ht₂ : s₂.heap.get? t = some o' := kn₂.seq ht₁ htb hd'
    refine hbody s₂ _ _ f₂ (fun ρ₃ ω₃ s₃ hn f₃ kn₃ => ?_) (fun pv v ω₃ s₃ hr f₃ rv => hR pv v ω₃ s₃ hr f₃ rv) fun _ _ _ _ z => z.elim
    refine ⟨ps.length - (k + 1), by omega, k + 1, ρ₃, ω₃, rfl, hk', f₃, ?_, ⟨o', kn₃.seq ht₂ htb hd', hc', hd'⟩, (hl₁.ks kn₂.ks).ks kn₃.ks, (kn₁.trans kn₂).trans kn₃, hn⟩
    obtain ⟨o, ho, hc, hd⟩ := hit₂
    exact ⟨o, kn₃.rec ho (Rec.ne (bx := c.bx) (hrec o hc ⟨_, _, hd⟩) f₂.inv ho) (hrec o hc ⟨_, _, hd⟩), hc, hd⟩
  · have hkk : k = ps.length := by omega
    subst hkk
    rw [List.drop_length] at hP
    refine next_tuple_end O.hand hit ⟨o', ho', hc', n, hd'⟩ (by simp [hlen]) fun h₁ he₁ => wpAny_execs_nil ?_
    exact hN _ _ { s' with heap := h₁ } hP (f'.turn (tk := s'.toks) ow hoi hrc he₁) (k1.kn.trans (kn'.but he₁ (Heap.get?_none_of_le (Nat.le_refl _))))
theorem S_for_lst (O : c.Ok) {i : Nat} {x : Str} {px pos : Pos} {iter : Expr} {body : List Stmt} (hx : c.vars[i]? = some x) (hk : StoreOk c x) (hs : ∀ v, foldedSetIterable iter c.env v = pure v)
    (h : SE c iter ρ ω (fun v ω1 => ∃ ps, v = .lst ps ∧ ForP c i body N R ps ρ ω1) X) : SS c (exec (.For (.Name x px) iter body [] pos) c.env) ρ ω N R X := fun s Q E f hN hR hE => by
  refine wpAny_For (h s _ _ f (fun pv v ω1 s1 hp i1 k1 r1 => ?_) fun code ea ω' s' x i k e => hE code ea ω' s' x (f.step i k).weak e) hs
  obtain ⟨ps, rfl, hp⟩ := hp
  obtain ⟨t, ot, vs, n, rfl, htb, hot, hct, hdt, hl⟩ := vr_lst.mp r1
  have f1 := f.step i1 k1
  refine wpAny_pyIter_list ⟨ot, hot, hct, n, hdt⟩ ?_
  have ow := f1.fresh
  have pk : ∀ b o, s1.heap.get? b = some o → (s1.heap.push { cls := .type "list_iterator", data := .fields #[.ref t, .int 0 0] }).get? b = some o := push_keeps
  refine codeAny_forLoop (fun m s' => ∃ k ρ' ω', m = (ps.length - k) ∧ k ≤ ps.length ∧ FrI c ρ' ω' s' ∧ s'.heap.IsListIter s1.heap.objs.size t k ∧ (∃ o', s'.heap.get? t = some o' ∧ o'.cls = .type "list" ∧ o'.data = .seq vs n) ∧ VrL c.bx s'.heap ps vs.toList ∧ Kn c.bx s1.heap s'.heap ∧ ForP c i body N R (ps.drop k) ρ' ω') ?_ ps.length
    ⟨0, ρ, ω1, by simp, Nat.zero_le _, f1.ext pk, ⟨_, Heap.get?_push_size _ rfl, rfl, rfl⟩, ⟨ot, pk _ _ hot, hct, hdt⟩, hl.mono (.of_keeps pk), (Kp.of_keeps pk).kn, by simpa using hp⟩
  rintro m s' ⟨k, ρ', ω', rfl, hle, f', hit, ⟨o', ho', hc', hd'⟩, hl', kn', hP⟩
  have hlen : vs.size = ps.length := by have := vrl_len hl; simpa using this
  have hisz : s1.heap.objs.size ≠ t := Nat.ne_of_gt (Heap.lt_size hot)
  obtain ⟨oi, hoi, hci, hdi⟩ := id hit
  have hrec : ∀ (o : Obj), o.cls = .type "list_iterator" → (∃ v j, o.data = .fields #[v, .int j 0]) → Rec o := fun o hc ⟨v, j, hd⟩ =>
    ⟨_, hd, by rw [hc]; simp, by rw [hc]; simp, by rw [hc]; simp, fun q t z => by simp at z⟩
  have hrc := hrec oi hci ⟨_, _, hdi⟩
  by_cases hk' : k < ps.length
  · have hdr : ps.drop k = ps[k] :: ps.drop (k + 1) := List.drop_eq_getElem_cons hk'
    rw [hdr] at hP
    obtain ⟨hi, hbody⟩ := hP
    refine wpAny_pyNext_list_item hit ⟨o', ho', hc', n, hd'⟩ (x := vs[k]'(by omega)) (by simp [hlen, hk']) fun h₁ hit₁ hs₁ => ?_
    have f₁ : FrI c ρ' ω' { s' with heap := h₁ } := f'.turn (tk := s'.toks) ow hoi hrc hs₁.extBut
    have hl₁ : VrL c.bx h₁ ps vs.toList := hl'.ks (Foreign.ks (c := c.toSt) hs₁.extBut ⟨ow.g, fun o e => by
      rw [hoi] at e; cases e
      obtain ⟨ws, d, a, _, _, b⟩ := hrc
      exact .inl ⟨ws, d, a, b⟩⟩)
    have kn₁ : Kn c.bx s1.heap h₁ := kn'.but hs₁.extBut (Heap.get?_none_of_le (Nat.le_refl _))
    have ht₁ : h₁.get? t = some o' := (hs₁.2 t hisz.symm).trans ho'
    obtain ⟨u, hu, ru⟩ := vrl_get hl₁ (List.getElem?_eq_getElem hk')
    have hu' : u = vs[k]'(by omega) := by
      rw [Array.getElem?_toList, Array.getElem?_eq_getElem (by omega)] at hu
      exact (Option.some.inj hu).symm
    refine wpAny_assign_Name (f₁.store O hx hi hk (hu' ▸ ru) fun s₂ f₂ kn₂ => ?_)
    have hit₂ : s₂.heap.IsListIter s1.heap.objs.size t (k + 1) := by
      obtain ⟨o, ho, hc, hd⟩ := hit₁
      exact ⟨o, kn₂.rec ho (Rec.ne (bx := c.bx) (hrec o hc ⟨_, _, hd⟩) f₁.inv ho) (hrec o hc ⟨_, _, hd⟩), hc, hd⟩
    have ht₂ : s₂.heap.get? t = some o' := kn₂.seq ht₁ htb hd'
    refine hbody s₂ _ _ f₂ (fun ρ₃ ω₃ s₃ hn f₃ kn₃ => ?_) (fun pv v ω₃ s₃ hr f₃ rv => hR pv v ω₃ s₃ hr f₃ rv) fun _ _ _ _ z => z.elim
    refine ⟨ps.length - (k + 1), by omega, k + 1, ρ₃, ω₃, rfl, hk', f₃, ?_, ⟨o', kn₃.seq ht₂ htb hd', hc', hd'⟩, (hl₁.ks kn₂.ks).ks kn₃.ks, (kn₁.trans kn₂).trans kn₃, hn⟩
    obtain ⟨o, ho, hc, hd⟩ := hit₂
    exact ⟨o, kn₃.rec ho (Rec.ne (bx := c.bx) (hrec o hc ⟨_, _, hd⟩) f₂.inv ho) (hrec o hc ⟨_, _, hd⟩), hc, hd⟩
  · have hkk : k = ps.length := by omega
    subst hkk
    rw [List.drop_length] at hP
    refine wpAny_pyNext_list_end O.hand hit ⟨o', ho', hc', n, hd'⟩ (by simp [hlen]) fun h₁ he₁ => wpAny_execs_nil ?_
    exact hN _ _ { s' with heap := h₁ } hP (f'.turn (tk := s'.toks) ow hoi hrc he₁) (k1.kn.trans (kn'.but he₁ (Heap.get?_none_of_le (Nat.le_refl _))))
end
end Mine
end TextML
section TextMM
open PySem PySem.W PySem.Calls PyProof.Rows
set_option Elab.async false
set_option linter.unusedVariables false
set_option maxRecDepth 100000
namespace Mine
noncomputable def idx : List Str → Str → Option Nat
  | [], _ => none
  | y :: ys, x => if y = x then some 0 else (idx ys x).map (· + 1)
theorem idx_get : ∀ {l : List Str} {x : Str} {i : Nat}, idx l x = some i → l[i]? = some x
  | [], _, _, h => by cases h
  | y :: ys, x, i, h => by
    unfold idx at h
    by_cases q : y = x
    · rw [if_pos q] at h; cases h; simp [q]
    · rw [if_neg q] at h
      cases hi : idx ys x with
      | none => rw [hi] at h; cases h
      | some j => rw [hi] at h; cases h; simpa using idx_get hi
noncomputable def nmOf : Expr → Option Str
  | .Name x _ => some x
  | _ => none
section
variable {c : Cx} {ρ : Store} {ω : Om} {K : PV → Om → Prop} {X : Str → Om → Prop} {N : Store → Om → Prop} {R : PV → Om → Prop}
theorem nm_inv {e : Expr} {x : Str} (h : nmOf e = some x) : ∃ p, e = .Name x p := by
  cases e with
  | Name y p => cases h; exact ⟨p, rfl⟩
  | _ => exact none_some h
theorem assignEach_cons {e : Expr} {es : List Expr} {env : Env} {x : Str} (h : nmOf e = some x) : ∃ b, assignEach (e :: es) env = (b, assign e env) :: assignEach es env ∧ b = false := by
  obtain ⟨p, rfl⟩ := nm_inv h; exact ⟨false, rfl, rfl⟩
theorem assignEach_names {env : Env} : ∀ {elts : List Expr} {names : List Str}, elts.map nmOf = names.map some →
    (assignEach elts env).length = names.length ∧ (assignEach elts env).findIdx? (·.1) = none ∧
    ∀ (k : Nat) (x : Str) (t : Value → Sem Unit), names[k]? = some x → ((assignEach elts env).map (·.2))[k]? = some t → ∃ pos, t = assign (.Name x pos) env
  | [], names, h => by
    cases names with
    | nil => exact ⟨rfl, rfl, fun k x t e => by simp at e⟩
    | cons a b => cases h
  | e :: es, [], h => by cases h
  | e :: es, x :: xs, h => by
    rw [List.map_cons, List.map_cons, List.cons.injEq] at h
    obtain ⟨b, hb, rfl⟩ := assignEach_cons (es := es) (env := env) h.1
    obtain ⟨h1, h2, h3⟩ := assignEach_names (env := env) h.2
    rw [hb]
    refine ⟨by simp [h1], by simp [List.findIdx?_cons, h2], fun k y t e1 e2 => ?_⟩
    cases k with
    | zero =>
      simp at e1 e2; subst e1 e2
      obtain ⟨p, rfl⟩ := nm_inv h.1
      exact ⟨p, rfl⟩
    | succ k => exact h3 k y t (by simpa using e1) (by simpa using e2)
structure Names (c : Cx) (ρ : Store) (is : List Nat) (names : List Str) : Prop where
  ix : names.map (idx c.vars) = is.map some
  loc : names.all (fun x => c.cs.names.lookup x == some .local) = true
  lt : is.all (fun i => decide (i < ρ.length)) = true
theorem Names.len {is : List Nat} {names : List Str} (n : Names c ρ is names) : is.length = names.length := by have := congrArg List.length n.ix; simpa using this.symm
theorem Names.mem {is : List Nat} {names : List Str} (n : Names c ρ is names) : ∀ p ∈ is.zip names, c.vars[p.1]? = some p.2 ∧ p.1 < ρ.length ∧ StoreOk c p.2 := fun p hp => by
  obtain ⟨k, hk, e⟩ := List.mem_iff_getElem.mp hp
  rw [List.getElem_zip] at e
  have hl := n.len
  rw [List.length_zip] at hk
  have e1 : p.1 = is[k]'(by omega) := by rw [← e]
  have e2 : p.2 = names[k]'(by omega) := by rw [← e]
  have hi : idx c.vars (names[k]'(by omega)) = some (is[k]'(by omega)) := by
    have := congrArg (·[k]?) n.ix
    simp only [List.getElem?_map] at this
    rw [List.getElem?_eq_getElem (by omega), List.getElem?_eq_getElem (by omega)] at this
    simpa using this
  refine ⟨by rw [e1, e2]; exact idx_get hi, ?_, .inl ?_⟩
  · have := List.all_eq_true.mp n.lt p.1 (by rw [e1]; exact List.getElem_mem _)
    simpa using this
  · have := List.all_eq_true.mp n.loc p.2 (by rw [e2]; exact List.getElem_mem _)
    simpa using this
theorem S_asgT (O : c.Ok) {elts : List Expr} {k : Nat} {tpos pos : Pos} {value : Expr} {names : List Str} {is : List Nat} (hn : elts.map nmOf = names.map some) (hm : Names c ρ is names)
    (hs : swapsWithSole [.Tuple elts k tpos] value pos.line c.env = pure false) (hw : swappedStores [.Tuple elts k tpos] value c.env = pure none)
    (h : SE c value ρ ω (fun v ω1 => ∃ ps, (v = .tup ps ∨ v = .lst ps) ∧ ps.length = names.length ∧ N (setAll ρ is ps) ω1) X) : SS c (exec (.Assign [.Tuple elts k tpos] value pos) c.env) ρ ω N R X := fun s Q E f hN hR hE => by
  refine Assign_Tuple (h s _ _ f (fun pv v ω1 s1 hp i1 k1 r1 => ?_) fun code ea ω' s' x i k e => hE code ea ω' s' x (f.step i k).weak e) hs hw
  obtain ⟨ps, hv, hlen, hp⟩ := hp
  obtain ⟨a1, a2, a3⟩ := assignEach_names (env := c.env) hn
  have f1 := f.step i1 k1
  have fin : ∀ (vs : Array Value) (h' : Heap), VrL c.bx s1.heap ps vs.toList → (∀ b o, s1.heap.get? b = some o → h'.get? b = some o) → wpAny (model PRG c.w) c.A (assignInOrder ((assignEach elts c.env).map (·.2)) vs.toList) (fun _ => Q .next) E { s1 with heap := h' } := fun vs h' hl hk' => by
    refine storeAll O (f1.ext (tk := s1.toks) hk') (l := is.zip names) hm.mem (hl.mono (.of_keeps hk')) ?_ ?_ (fun j p t e1 e2 v Q' s' h' => ?_) fun s' f' kn => ?_
    · rw [List.length_zip]; have := hm.len; omega
    · rw [List.length_map, List.length_zip, a1]; have := hm.len; omega
    · have e3 : names[j]? = some p.2 := by
        obtain ⟨hj, e⟩ := List.getElem?_eq_some_iff.mp e1
        rw [List.getElem_zip] at e
        rw [List.length_zip] at hj
        rw [List.getElem?_eq_getElem (by omega), ← e]
      obtain ⟨ps', rfl⟩ := a3 j p.2 t e3 e2
      exact wpAny_assign_Name h'
    · refine hN _ _ _ ?_ f' ((k1.kn.trans (Kp.of_keeps hk').kn).trans kn)
      rw [List.map_fst_zip (by have := hm.len; omega)]; exact hp
  rcases hv with rfl | rfl
  · obtain ⟨t, ot, vs, n, rfl, htb, hot, hct, hdt, hl⟩ := vr_tup.mp r1
    have hlen' := vrl_len hl
    refine assign_Tuple_tuple O.hand ⟨ot, hot, hct, n, hdt⟩ (by rw [a1, ← hlen, ← hlen']; simp) a2 fun h' he => fin vs h' hl fun b o e => he b o (Nat.ne_of_lt (Heap.lt_size e)) e
  · obtain ⟨t, ot, vs, n, rfl, htb, hot, hct, hdt, hl⟩ := vr_lst.mp r1
    have hlen' := vrl_len hl
    rw [assign_Tuple]
    refine wpAny_bind (wpAny_standAt ?_)
    unfold unpack
    rw [a2, show (assignEach elts c.env).length = vs.size by rw [a1, ← hlen, ← hlen']; simp]
    exact wpAny_bind (wpAny_holding (unpackItems_list O.hand ⟨ot, hot, hct, n, hdt⟩ fun h' he => fin vs h' hl fun b o e => he b o (Nat.ne_of_lt (Heap.lt_size e)) e))
theorem vrl_append {bx h} : ∀ {ps qs : List PV} {vs us : List Value}, VrL bx h ps vs → VrL bx h qs us → VrL bx h (ps ++ qs) (vs ++ us)
  | [], qs, vs, us, r, r2 => by rw [vrl_nil.mp r]; exact r2
  | p :: ps, qs, vs, us, r, r2 => by
    obtain ⟨v, t, rfl, r1, r3⟩ := vrl_cons.mp r
    exact vrl_cons.mpr ⟨v, _, rfl, r1, vrl_append r3 r2⟩
theorem vrl_reverse {bx h} : ∀ {ps : List PV} {vs : List Value}, VrL bx h ps vs → VrL bx h ps.reverse vs.reverse
  | [], vs, r => by rw [vrl_nil.mp r]; exact vrl_nil.mpr rfl
  | p :: ps, vs, r => by
    obtain ⟨v, t, rfl, r1, r3⟩ := vrl_cons.mp r
    rw [List.reverse_cons, List.reverse_cons]
    exact vrl_append (vrl_reverse r3) (vrl_cons.mpr ⟨v, _, rfl, r1, vrl_nil.mpr rfl⟩)
theorem S_asgW (O : c.Ok) {elts : List Expr} {k : Nat} {tpos pos : Pos} {value : Expr} {names : List Str} {is : List Nat} (hm : Names c ρ is names)
    (hs : swapsWithSole [.Tuple elts k tpos] value pos.line c.env = pure false) (hw : swappedStores [.Tuple elts k tpos] value c.env = pure (some names))
    (h : SE c value ρ ω (fun v ω1 => ∃ ps, v = .tup ps ∧ ps.length = names.length ∧ N (setAll ρ is.reverse ps.reverse) ω1) X) : SS c (exec (.Assign [.Tuple elts k tpos] value pos) c.env) ρ ω N R X := fun s Q E f hN hR hE => by
  refine Assign_Tuple_swapped (h s _ _ f (fun pv v ω1 s1 hp i1 k1 r1 => ?_) fun code ea ω' s' x i k e => hE code ea ω' s' x (f.step i k).weak e) hs hw
  obtain ⟨ps, rfl, hlen, hp⟩ := hp
  have f1 := f.step i1 k1
  obtain ⟨t, ot, vs, n, rfl, htb, hot, hct, hdt, hl⟩ := vr_tup.mp r1
  have hlen' := vrl_len hl
  have hll := hm.len
  rw [show names.length = vs.size by rw [← hlen, ← hlen']; simp]
  refine unpackItems_tuple O.hand ⟨ot, hot, hct, n, hdt⟩ fun h' he => ?_
  have hk' : ∀ b o, s1.heap.get? b = some o → h'.get? b = some o := fun b o e => he b o (Nat.ne_of_lt (Heap.lt_size e)) e
  refine storeAll O (f1.ext (tk := s1.toks) hk') (l := (is.zip names).reverse) (ps := ps.reverse) (fun p hp => hm.mem p (List.mem_reverse.mp hp)) (vrl_reverse (hl.mono (.of_keeps hk'))) ?_ ?_ (fun j p t e1 e2 v Q' s' h' => ?_) fun s' f' kn => ?_
  · rw [List.length_reverse, List.length_reverse, List.length_zip]; omega
  · rw [List.length_map, List.length_reverse, List.length_reverse, List.length_zip]; omega
  · have hj : j < names.length := by
      have := (List.getElem?_eq_some_iff.mp e1).1
      rw [List.length_reverse, List.length_zip] at this; omega
    rw [List.getElem?_map, List.getElem?_reverse hj] at e2
    rw [List.getElem?_reverse (by rw [List.length_zip]; omega)] at e1
    obtain ⟨hj', e⟩ := List.getElem?_eq_some_iff.mp e1
    rw [List.getElem_zip] at e
    rw [List.length_zip] at hj'
    rw [List.getElem?_eq_getElem (by omega)] at e2
    have : p.2 = names[names.length - 1 - j]'(by omega) := by
      have q : (is.zip names).length - 1 - j = names.length - 1 - j := by rw [List.length_zip]; omega
      rw [← e]; simp only [q]
    simp only [Option.map_some, Option.some.injEq] at e2
    rw [← e2, ← this]
    exact wpAny_bindName h'
  · refine hN _ _ _ ?_ f' ((k1.kn.trans (Kp.of_keeps hk').kn).trans kn)
    rw [List.map_reverse, List.map_fst_zip (by omega)]; exact hp
/-- a store into the box -/
theorem Inv.setBox {c : St} {b0 b1 b0' b1' : Int} {s : Shared} {h' : Heap} {tk : Nat} (i : Inv c (some (b0, b1)) s) (hs : Heap.SameBut c.bx s.heap h') (hb : ∃ o n t0 t1, h'.get? c.bx = some o ∧ o.cls = .type "list" ∧ o.data = .seq #[.int b0' t0, .int b1' t1] n) :
    Inv c (some (b0', b1')) { s with heap := h', toks := tk } := by
  obtain ⟨hg, o0, n0, t00, t10, e0, hc0, d0⟩ := i.box _ _ rfl
  have tab : ∀ P q, TabI s.heap P q → TabI h' P q := fun P q ⟨ps, e, t, r⟩ => by
    refine ⟨ps, (hs.2 P fun z => ?_).trans e, t, fun pos cv hc => ⟨(r pos cv hc).1, ?_⟩⟩
    · rw [z, e0] at e; cases e; cases d0
    · obtain ⟨c', o, vs, tq, e1, e2, e3, e4⟩ := (r pos cv hc).2
      refine ⟨c', o, vs, tq, e1, (hs.2 c' fun z => ?_).trans e2, e3, e4⟩
      rw [z, e0] at e2; cases e2; rw [d0] at e3; cases e3
  obtain ⟨o, n, t0, t1, e, hc, d⟩ := hb
  exact ⟨i.gens, i.os, fun b ob eb => (hs.2 b fun z => by rw [z, hg] at eb; cases eb).trans (i.stays b ob eb), tab _ _ i.tabA, tab _ _ i.tabB, ⟨o, _, n, e, d⟩, fun x y q => by
    cases q; exact ⟨hg, o, n, t0, t1, e, hc, d⟩⟩
theorem S_set0 {x : Str} {xp ip tp pos : Pos} {ik : Nat} {e : Expr} (hc : notComp e = true)
    (h : SE c e ρ ω (fun v ω1 => ∃ i b0 b1, v = .int i ∧ ω1 = some (b0, b1) ∧ SE c (.Name x xp) ρ ω1 (fun u ω2 => u = .box ∧ ω2 = ω1 ∧ N ρ (some (i, b1))) X) X) :
    SS c (exec (.Assign [.Subscript (.Name x xp) (.Constant (.int 0) ik ip) tp] e pos) c.env) ρ ω N R X := fun s Q E f hN hR hE => by
  refine wpAny_Assign_Subscript (h s _ _ f (fun pv v ω1 s1 hp i1 k1 r1 => ?_) fun code ea ω' s' x i k e => hE code ea ω' s' x (f.step i k).weak e) (swapsWith_false hc)
  obtain ⟨i, b0, b1, rfl, rfl, hp⟩ := hp
  obtain ⟨tv, rfl⟩ := vr_int.mp r1
  refine hp s1 _ _ (f.step i1 k1) (fun pu u ω2 s2 hq i2 k2 r2 => ?_) fun code ea ω' s' x i k e => hE code ea ω' s' x ((f.step i1 k1).step i k).weak e
  obtain ⟨rfl, rfl, hn⟩ := hq
  obtain rfl := vr_box.mp r2
  refine wpAny_Constant_int ?_
  obtain ⟨hg, o, n, t0, t1, ho, hcl, hd⟩ := i2.box _ _ rfl
  refine wpAny_setItem_list (items := #[.int b0 t0, .int b1 t1]) ⟨o, ho, hcl, n, hd⟩ (by decide) (by decide) (by simp) fun h' hl hs => ?_
  obtain ⟨o', ho', hc', n', hd'⟩ := hl
  have kp := k1.trans (k2.trans (Kp.sameBx hs))
  exact hN _ _ _ hn (f.step (i2.setBox hs ⟨o', n', _, _, ho', hc', hd'⟩) kp) kp.kn
theorem S_set1 {x : Str} {xp ip tp pos : Pos} {ik : Nat} {e : Expr} (hc : notComp e = true)
    (h : SE c e ρ ω (fun v ω1 => ∃ i b0 b1, v = .int i ∧ ω1 = some (b0, b1) ∧ SE c (.Name x xp) ρ ω1 (fun u ω2 => u = .box ∧ ω2 = ω1 ∧ N ρ (some (b0, i))) X) X) :
    SS c (exec (.Assign [.Subscript (.Name x xp) (.Constant (.int 1) ik ip) tp] e pos) c.env) ρ ω N R X := fun s Q E f hN hR hE => by
  refine wpAny_Assign_Subscript (h s _ _ f (fun pv v ω1 s1 hp i1 k1 r1 => ?_) fun code ea ω' s' x i k e => hE code ea ω' s' x (f.step i k).weak e) (swapsWith_false hc)
  obtain ⟨i, b0, b1, rfl, rfl, hp⟩ := hp
  obtain ⟨tv, rfl⟩ := vr_int.mp r1
  refine hp s1 _ _ (f.step i1 k1) (fun pu u ω2 s2 hq i2 k2 r2 => ?_) fun code ea ω' s' x i k e => hE code ea ω' s' x ((f.step i1 k1).step i k).weak e
  obtain ⟨rfl, rfl, hn⟩ := hq
  obtain rfl := vr_box.mp r2
  refine wpAny_Constant_int ?_
  obtain ⟨hg, o, n, t0, t1, ho, hcl, hd⟩ := i2.box _ _ rfl
  refine wpAny_setItem_list (items := #[.int b0 t0, .int b1 t1]) ⟨o, ho, hcl, n, hd⟩ (by decide) (by decide) (by simp) fun h' hl hs => ?_
  obtain ⟨o', ho', hc', n', hd'⟩ := hl
  have kp := k1.trans (k2.trans (Kp.sameBx hs))
  exact hN _ _ _ hn (f.step (i2.setBox hs ⟨o', n', _, _, ho', hc', hd'⟩) kp) kp.kn
end
end Mine
end TextMM
section TextMQ
open PySem PySem.W PySem.Calls PyProof.Rows
set_option Elab.async false
set_option linter.unusedVariables false
set_option maxRecDepth 100000
namespace Mine
/-! what the top holds of the exception's class -/
noncomputable abbrev KF (w : World) : Frag := hd.heap_39 w.params
theorem nsv_of {K : Frag} {h : Heap} {N : Addr} {mg : Str → Option Value} {n : Str} {v : Value} (X : K.In h) (G : h.Ns N mg) (e : nsIn K N n = some (some v)) : mg n = some v := by
  obtain ⟨o, es, ep, ho, hd, _, hf⟩ := G
  cases hl : K.lookup N with
  | none => unfold nsIn at e; rw [hl] at e; cases e
  | some q =>
    have hq := X _ _ hl
    rw [ho] at hq; cases hq
    obtain ⟨oc, od, odt, osl⟩ := o
    dsimp only at hd; subst hd
    unfold nsIn at e
    rw [hl] at e
    dsimp only at e
    rw [← hf]
    unfold nsFind findBy
    rw [← Array.find?_toList]
    cases hx : es.toList.find? (·.key.isStr n) with
    | none => rw [hx] at e; dsimp only at e; split at e <;> cases e
    | some x => rw [hx] at e; simpa using e
theorem cls34 (w : World) : ∃ nm q bs sn sub col dd k0 k1 k2 k3 k5, (KF w).lookup 34 = some (excClassObj nm q 34 33 bs [.type "Exception", .type "BaseException", .type "object"] true sn sub false col dd k0 k1 k2 k3 k5 "Exception.__new__") :=
  ⟨_, _, _, _, _, _, _, _, _, _, _, _, rfl⟩
theorem ns33 (w : World) : nsOkIn (KF w) 33 = true := by kernel_rfl
theorem init33 (w : World) : nsIn (KF w) 33 "__init__" = some (some (.ref 31)) := by kernel_rfl
theorem set33 (w : World) : nsIn (KF w) 33 "__setattr__" = some none := by kernel_rfl
theorem code33 (w : World) : nsIn (KF w) 33 "code" = some none := by kernel_rfl
theorem told33 (w : World) : nsIn (KF w) 33 "told" = some none := by kernel_rfl
theorem ga33 (w : World) : nsIn (KF w) 33 "__getattribute__" = some none := by kernel_rfl
theorem gm33 (w : World) : nsIn (KF w) 33 "__getattr__" = some none := by kernel_rfl
theorem glob34 (w : World) : nsIn (KF w) mainGlobals "BasicError" = some (some (.ref 34)) := by kernel_rfl
theorem super_none (w : World) : nsIn (KF w) mainGlobals "super" = some none := by kernel_rfl
theorem along_init (w : World) : alongIn (KF w) "__init__" [.type "Exception", .type "BaseException", .type "object"] = some (some (.builtin "Exception.__init__")) := by kernel_rfl
theorem mro34 (w : World) : mroIn (KF w) 34 (.ref 34) = some true := by kernel_rfl
theorem opq (w : World) : nsIn (KF w) cStatics "thirdparty.any" = some none := by kernel_rfl
theorem noCode : typeLookup (.type "Exception") "code" = pure none := am_miss_of_fast (by kernel_rfl)
theorem noTold : typeLookup (.type "Exception") "told" = pure none := am_miss_of_fast (by kernel_rfl)
theorem slot_wd_get : Slot "wrapper_descriptor" "__get__" "wrapper_descriptor.__get__" := .of (owner := "wrapper_descriptor") (n := "__get__") (by rw [typeLookup_type, builtinLookup_eq_fast]; kernel_rfl) (by decide +kernel) (by decide +kernel) (by decide +kernel)
  (by first | exact .inl (by decide +kernel) | exact .inr (by decide +kernel)) (by rw [isSubtype_type]; kernel_rfl)
theorem entry_wd_get : entryFor table "wrapper_descriptor.__get__" = some Builtin.«wrapper_descriptor.__get__» := entryFor_of_tree (by kernel_rfl)
theorem args_wd_get (a b c : Value) : argsOk "wrapper_descriptor.__get__" ⟨[a, b, c], []⟩ := by unfold argsOk; kernel_rfl
theorem typeOf_exinit : typeOf (.builtin "Exception.__init__") = pure (.type "wrapper_descriptor") := by kernel_rfl
section
variable {M : Model} {A : Around} {E : Value → Shared → Prop} {prog : Program} {w : World}
theorem wd_get {h : Heap} {g : Array GenState} {d : Drawn} {t : Nat} {os : OsState} {x : Addr} {ox : Obj} {Q : Value → Shared → Prop} (X : (KF w).In h) (hx : h.get? x = some ox) (hc : ox.cls = .ref 34)
    (hq : Q (.ref h.objs.size) ⟨h.push { cls := .type "method-wrapper", data := .fields #[.builtin "Exception.__init__", .ref x] }, g, d, t, os⟩) :
    wpAny (model prog w) A (call (.builtin "wrapper_descriptor.__get__") [.builtin "Exception.__init__", .ref x, .ref 34]) Q E ⟨h, g, d, t, os⟩ := by
  obtain ⟨nm, q, bs, sn, sub, col, dd, k0, k1, k2, k3, k5, hC0⟩ := cls34 w
  have hC := X _ _ hC0
  have hT : (⟨h, g, d, t, os⟩ : Shared).TypeIs (.builtin "Exception.__init__") "wrapper_descriptor" := typeOf_exinit
  have hcB : (Value.ref 34 :: [.type "Exception", .type "BaseException", .type "object"]).contains (.type (".".intercalate ("Exception.__init__".cutAt '.').dropLast)) = true := by decide +kernel
  refine wpAny_call_entry slot_wd_get hT entry_wd_get ?_ (args_wd_get _ _ _)
  unfold Builtin.«wrapper_descriptor.__get__»
  repeat (any_goals (first | assumption | (with_reducible refine wpAny_loadPart_at hx ?_; rw [hc]) | (with_reducible refine wpAny_isSubtype_exc hC ?_; rw [hcB]) | wp_step))
  exact ⟨_, rfl, hq⟩
end
end Mine
end TextMQ
section TextMR
open PySem PySem.W PySem.Calls PyProof.Rows
set_option Elab.async false
set_option linter.unusedVariables false
set_option maxRecDepth 100000
namespace Mine
section
variable {M : Model} {A : Around} {E : Value → Shared → Prop} {prog : Program} {w : World}
theorem sup_ga' {K : Frag} {h : Heap} {g : Array GenState} {d : Drawn} {t : Nat} {os : OsState} {so x : Addr} {tk : Tok} {l₀ : List Value} {mw : Addr} {h₁ : Heap} {Q : Fin → Shared → Prop} (X : K.In h) (hx34 : x ≠ 34)
    (hal : alongIn K "__init__" [.type "Exception", .type "BaseException", .type "object"] = some (some (.builtin "Exception.__init__")))
    (hno : Looks (model prog w) h (opaqueClassAbove (.ref 34)) none) (hC : Looks (model prog w) h (mroOf (.ref 34)) l₀) (hl : (l₀.dropWhile (· != .ref 34)).drop 1 = [.type "Exception", .type "BaseException", .type "object"])
    (hwd : ∀ {A : Around} {E : Value → Shared → Prop} {Q : Value → Shared → Prop}, Q (.ref mw) ⟨h₁, g, d, t, os⟩ → wpAny (model prog w) A (call (.builtin "wrapper_descriptor.__get__") [.builtin "Exception.__init__", .ref x, .ref 34]) Q E ⟨h, g, d, t, os⟩)
    (hso : h.get? so = some { cls := .type "super", dict := none, data := .fields #[.ref 34, .ref x, .ref 34], slots := #[] })
    (hq : Q (.done (.ret (.ref mw))) ⟨h₁, g, d, t, os⟩) :
    wpAny (model prog w) A (Builtin.«super.__getattribute__» ⟨[.ref so, .str "__init__" tk], []⟩) Q E ⟨h, g, d, t, os⟩ := by
  have hlk := slot_wd_get.lookup
  have hne : (Value.ref x == Value.ref 34) = false := by simp [hx34]
  have hn : (("__init__" : Str) == ("__class__" : Str)) = false := by decide
  have hTf : (⟨h, g, d, t, os⟩ : Shared).TypeIs (.builtin "Exception.__init__") "wrapper_descriptor" := typeOf_exinit
  have hdt : ({ cls := .type "super", dict := none, data := .fields #[.ref 34, .ref x, .ref 34], slots := #[] } : Obj).data = .fields #[.ref 34, .ref x, .ref 34] := rfl
  have f0 : (#[.ref 34, .ref x, .ref 34] : Array Value)[0]? = some (.ref 34) := rfl
  have f1 : (#[.ref 34, .ref x, .ref 34] : Array Value)[1]? = some (.ref x) := rfl
  have f2 : (#[.ref 34, .ref x, .ref 34] : Array Value)[2]? = some (.ref 34) := rfl
  unfold Builtin.«super.__getattribute__»
  iterate 23 (first
    | (with_reducible refine wpAny_field hso hdt f0 ?_) | (with_reducible refine wpAny_field hso hdt f1 ?_) | (with_reducible refine wpAny_field hso hdt f2 ?_)
    | (with_reducible refine ks_wpAny_notOpaque hno ?_)
    | (with_reducible refine Looks.at hC ?_; rw [hl])
    | (simp only [hn, hne, Bool.or_false, Bool.false_eq_true, if_false])
    | wp_step)
  refine' ks_forIn_along (v := .builtin "Exception.__init__") (name := "__init__") (K := K) X ?ha ?hb ?hc ?hd
  case hd => exact hal
  case ha => exact fun _ _ => rfl
  case hb => exact rfl
  refine wpAny_bind (wpAny_of_eq typeOf_exinit ?_)
  refine wpAny_bind (wpAny_of_eq hlk ?_)
  refine wpAny_bind (wpAny_holding (hwd ?_))
  exact wpAny_bind (wpAny_pure (wpAny_pure (wpAny_pure hq)))
theorem sup_method {h : Heap} {g : Array GenState} {d : Drawn} {t : Nat} {os : OsState} {so x : Addr} {ox : Obj} {pl : Sem Bool} {Q : Value × List Value → Shared → Prop} (X : (KF w).In h) (hx : h.get? x = some ox) (hc : ox.cls = .ref 34) (hx34 : x ≠ 34)
    (hso : h.get? so = some { cls := .type "super", dict := none, data := .fields #[.ref 34, .ref x, .ref 34], slots := #[] })
    (hq : Q (.ref h.objs.size, []) ⟨h.push { cls := .type "method-wrapper", data := .fields #[.builtin "Exception.__init__", .ref x] }, g, d, t + 1, os⟩) :
    wpAny (model prog w) A (getMethod (.ref so) "__init__" pl) Q E ⟨h, g, d, t, os⟩ := by
  obtain ⟨nm, q, bs, sn, sub, col, dd, k0, k1, k2, k3, k5, hC0⟩ := cls34 w
  have hC := X _ _ hC0
  have hlk := F.ks_slot_super_ga.lookup
  have hcan := F.ks_canon_super_ga
  have hT : ∀ t', (⟨h, g, d, t', os⟩ : Shared).TypeIs (.ref so) "super" := fun _ => ⟨_, hso, rfl⟩
  have hL : Looks (model prog w) h (mroOf (.ref 34)) [.ref 34, .type "Exception", .type "BaseException", .type "object"] := fun A Q E s k q => wpAny_mroOf_exc (h := s.heap) (g := s.gens) (d := s.drawn) (t := s.toks) (os := s.os) (k _ _ hC) q
  unfold getMethod
  refine wpAny_bind (wpAny_specialOf (hT _) hlk ?_)
  show wpAny _ _ (if (Manifest.canonical "super.__getattribute__" != "object.__getattribute__") = true then _ else _) _ _ _
  rw [if_pos hcan]
  unfold getAttr getAttrBy
  refine wpAny_bind (wpAny_bind (wpAny_mkText (wpAny_holding (wpAny_bind (wpAny_typeOf (hT _) (wpAny_bind (wpAny_of_eq hlk ?_)))))))
  show wpAny _ _ (getAttrByItsOwn (.ref so) (.str "__init__" t) (.type "super") (.builtin "super.__getattribute__") true false) _ _ _
  unfold getAttrByItsOwn hookBefore callGetattribute boundAndCalled
  refine wpAny_bind (wpAny_of_eq (show (if onTheHeap (.type "super") then typeLookup (.type "super") "__getattr__" else pure none) = pure none from rfl) ?_)
  refine wpAny_bind (wpAny_attempt (wpAny_holding ?_))
  show wpAny _ _ (bindSpecial (.builtin "super.__getattribute__") (.ref so) >>= _) _ _ _
  refine wpAny_bind (wpAny_of_eq (F.ks_slot_super_ga.bind _) ?_)
  refine wpAny_mono (Q := fun v s' => v = .ref h.objs.size ∧ s' = ⟨h.push { cls := .type "method-wrapper", data := .fields #[.builtin "Exception.__init__", .ref x] }, g, d, t + 1, os⟩) (E := fun _ _ => False)
    (wpAny_call_entry F.ks_slot_super_ga (hT _) F.ks_entry_super_ga (sup_ga' (l₀ := [.ref 34, .type "Exception", .type "BaseException", .type "object"]) X hx34 (along_init w) (looks_opaque X (opq w)) hL (by kernel_rfl) (fun hq => wd_get X hx hc hq) hso ⟨_, rfl, rfl, rfl⟩) (F.ks_gaArgs_super _ _)) (fun v s' hv => ?_) fun _ _ z => z.elim
  obtain ⟨rfl, rfl⟩ := hv
  exact wpAny_pure (wpAny_pure hq)
theorem check_exinit {h : Heap} {g : Array GenState} {d : Drawn} {t : Nat} {os : OsState} {x : Addr} {ox : Obj} {v : Value} {Q : Unit → Shared → Prop} (X : (KF w).In h) (hx : h.get? x = some ox) (hc : ox.cls = .ref 34) (hq : Q () ⟨h, g, d, t, os⟩) :
    wpAny M A (checkBoundCall "Exception.__init__" ⟨[.ref x, v], []⟩) Q E ⟨h, g, d, t, os⟩ := by
  obtain ⟨nm, q, bs, sn, sub, col, dd, k0, k1, k2, k3, k5, hC0⟩ := cls34 w
  have hC := X _ _ hC0
  have hshort := F.excBase_Exception.noStar
  simp only [checkBoundCall, F.excBase_Exception.initKind, F.excBase_Exception.initRow]
  repeat (first | (with_reducible refine wpAny_loadPart_at hx ?_; rw [hc]) | with_reducible refine wpAny_loadPart_at hC ?_ | wp_step)
  exact hq
theorem mw_call {h : Heap} {g : Array GenState} {d : Drawn} {t : Nat} {os : OsState} {mw x t0 : Addr} {v : Value} {Q : Value → Shared → Prop} (X : (KF w).In h)
    (hx : h.get? x = some { cls := .ref 34, data := .fields #[.ref t0, .none, .none, .none, .bool false, .none] })
    (hmw : h.get? mw = some { cls := .type "method-wrapper", data := .fields #[.builtin "Exception.__init__", .ref x] })
    (hq : ∀ h' t1, (∀ b o, b ≠ x → h.get? b = some o → h'.get? b = some o) → h'.get? x = some { cls := .ref 34, data := .fields #[.ref t1, .none, .none, .none, .bool false, .none] } → Q .none ⟨h', g, d, t, os⟩) :
    wpAny (model prog w) A (call (.ref mw) [v]) Q E ⟨h, g, d, t, os⟩ := by
  obtain ⟨nm, q, bs, sn, sub, col, dd, k0, k1, k2, k3, k5, hC0⟩ := cls34 w
  have hC := X _ _ hC0
  refine wpAny_call (codeAny_of_tree ?_)
  show wpAny _ A.in1 (callAny (.ref mw) _) _ _ _
  unfold callAny
  refine wpAny_bind (wpAny_load hmw ?_)
  show wpAny _ _ (checkBoundCall "Exception.__init__" ⟨[.ref x, v], []⟩ >>= fun _ => again (.builtin "Exception.__init__" ⟨[.ref x, v], []⟩)) _ _ _
  refine wpAny_bind (check_exinit X hx rfl (wpAny_pure ⟨Code.quiet_builtin _ (by decide +kernel), codeAny_builtin F.excBase_Exception.initEntry ?_⟩))
  wp_walk
  refine hq _ h.objs.size (fun b o hb e => ?_) ?_
  · exact (Heap.get?_update_other _ _ (Ne.symm hb)).trans (Heap.get?_push_of_some _ e)
  · exact Heap.get?_update_self _ (Heap.get?_push_of_some _ hx) rfl
end
end Mine
end TextMR
section TextMS
open PySem PySem.W PySem.Calls PyProof.Rows
set_option Elab.async false
set_option linter.unusedVariables false
set_option maxRecDepth 100000
namespace Mine
section
variable {M : Model} {A : Around} {E : Value → Shared → Prop} {s : Shared}
theorem callWith_mw {pos : Pos} {mw : Addr} {vs : Array Value} {args : List (Bool × Sem Value)} {Q : Value → Shared → Prop} (hs : args.any (·.1) = false)
    (h : wpAny M A (evalArgs (.ref mw) true args []) (fun a s₁ => s₁.heap.get? mw = some { cls := .type "method-wrapper", data := .fields vs } ∧ wpAny M A (call (.ref mw) a.pos a.kw) Q E s₁) E s) : wpAny M A (callWith pos (.ref mw) [] args []) Q E s := by
  unfold callWith
  refine wpAny_bind (wpAny_holding (wpAny_mono h (fun a s₁ h₁ => wpAny_bind (wpAny_standAt ?_)) fun _ _ x => x))
  simp only [hs, List.any_nil, Bool.or_false]
  refine wpAny_bind (m := keeperOf (.ref mw)) ?_
  unfold keeperOf
  refine wpAny_bind (wpAny_load h₁.1 (wpAny_pure ?_))
  exact wpAny_bind (wpAny_mono h₁.2 (fun r s₂ hr => wpAny_bind (wpAny_holding (wpAny_point (wpAny_pure hr)))) fun _ _ x => x)
end
section
open Builtin Builtin.ObjectAttr
variable {prog : Program} {w : World} {A : Around} {E : Value → Shared → Prop}
variable {nm q : Str} {C N x : Addr} {bs bm : List Value} {sn : List Str} {sub : List Value} {ab : Bool} {col : Option Bool} {dd : Option Addr} {k0 k1 k2 k3 k5 : Option Value} {B newId sa owner : String} {mN : Str → Option Value} {name : Str} {v : Value}
/-- the first name that an object of ours gets: its dict is new -/
theorem store_new {h : Heap} {g : Array GenState} {d : Drawn} {t : Nat} {os : OsState} {o : Obj} {vs : Array Value} {Q : Unit → Shared → Prop} (SF : StoreFacts B bm sa owner)
    (hC : h.get? C = some (excClassObj nm q C N bs bm true sn sub ab col dd k0 k1 k2 k3 k5 newId)) (hn : h.Ns N mN) (hns : mN "__setattr__" = none) (hna : mN name = none) (hB : typeLookup (.type B) name = pure none)
    (hx : h.get? x = some o) (hc : o.cls = .ref C) (hdn : o.dict = none) (hd : o.data = .fields vs)
    (hq : ∀ h' tk', (∀ b o, b ≠ x → h.get? b = some o → h'.get? b = some o) → h'.get? x = some { o with dict := some h.objs.size } → h'.Ns1 h.objs.size (fun y => if y = name then some v else none) → Q () ⟨h', g, d, tk', os⟩) :
    wpAny (model prog w) A (setAttr (.ref x) name v) Q E ⟨h, g, d, t, os⟩ := by
  have hbind := SF.slot.bind (.ref x)
  have hpass := SF.passes (.ref x)
  have hxs : x < h.objs.size := Heap.lt_size hx
  have entry : ∀ (tk t' : Tok) (Qf : PySem.Fin → Shared → Prop) (A' : Around) (E' : Value → Shared → Prop), (∀ h' tk', (∀ b o, b ≠ x → h.get? b = some o → h'.get? b = some o) → h'.get? x = some { o with dict := some h.objs.size } → h'.Ns1 h.objs.size (fun y => if y = name then some v else none) → Qf (.done (.ret .none)) ⟨h', g, d, tk', os⟩) →
      wpAny (model prog w) A' (Builtin.«object.__setattr__» ⟨[.ref x, .str name tk, v], []⟩) Qf E' ⟨h, g, d, t', os⟩ := by
    intro tk t' Qf A' E' hqf
    unfold Builtin.«object.__setattr__»
    repeat (first | rw [refuse_eq] | (rw [refuseLoop_ref, hpass]) | (with_reducible refine wpAny_loadPart_at hx ?_; rw [hc]) | with_reducible refine wpAny_mroOf_exc hC ?_ | (with_reducible refine wpAny_typeLookup_exc hC hn SF.mro hB ?_; rw [hna]) | wp_step)
    rw [hdn]
    simp only [Bool.not_true, Bool.false_or, show (!typeHasDict (Value.ref C)) = false from rfl, Bool.false_eq_true, if_false, hd]
    -- the dict is allocated, the record is told of it, the name is set
    refine wpAny_bind (wpAny_alloc' ?_)
    have e1 : (h.push { cls := .type "dict", data := .dict #[] }).get? x = some o := Heap.get?_push_of_some _ hx
    refine wpAny_bind (wpAny_update' e1 (wpAny_pure ?_))
    generalize hh₁ : (h.push { cls := .type "dict", data := .dict #[] }).update x (fun o => { cls := o.cls, dict := some h.objs.size, data := o.data, slots := o.slots }) = h₁
    have ex : h₁.get? x = some { o with dict := some h.objs.size } := by
      rw [← hh₁]
      exact Heap.get?_update_self _ e1 (by unfold Obj.isFreed; rw [hd])
    have ed : h₁.get? h.objs.size = some { cls := .type "dict", data := .dict #[] } := by
      rw [← hh₁, Heap.get?_update_ne _ _ _ _ (Nat.ne_of_gt hxs)]
      exact Heap.get?_push_at rfl rfl
    have eo : ∀ b o, b ≠ x → h.get? b = some o → h₁.get? b = some o := fun b o' hb e => by
      rw [← hh₁, Heap.get?_update_ne _ _ _ _ hb]
      exact Heap.get?_push_of_some _ e
    show wpAny _ _ (storeInDict h.objs.size (.str name tk) name v) _ _ _
    unfold storeInDict newKeyGuard
    refine wpAny_bind (wpAny_pure (wpAny_bind (wpAny_nsSet1 (m := fun _ => none) (Heap.Ns1.of_empty ⟨_, #[], _, ed, rfl, fun e he => absurd he (by simp), fun _ => rfl⟩) fun h₂ n₂ s₂ => ?_)))
    obtain ⟨oD, es, ep, f1, f2, f3⟩ := n₂.count (Within.cons name v Within.nil)
    refine wpAny_bind (wpAny_lookBehind f1 (by rw [f2]; exact pastItsLine_dict (Nat.le_trans f3 (by rw [List.length_cons, List.length_nil, sizeLine_eq]; omega))) ?_)
    wp_walk
    exact hqf h₂ _ (fun b o' hb e => (s₂.2 b (Nat.ne_of_lt (Heap.lt_size e))).trans (eo b o' hb e)) ((s₂.2 x (Nat.ne_of_lt hxs)).trans ex) n₂
  unfold setAttr callSpecial? specialOf
  repeat (any_goals (first | assumption | (with_reducible refine wpAny_loadPart_at hx ?_; rw [hc]) | (with_reducible refine wpAny_typeLookup_exc hC hn SF.mro SF.slot.lookup ?_; rw [hns]) | wp_step))
  refine codeAny_call_builtin SF.slot.plain SF.entry (wpAny_check_sa SF hC hx hc (entry _ _ _ _ _ fun h' tk' k1 k2 k3 => ?_))
  repeat (any_goals (first | assumption | wp_step))
  exact hq h' tk' k1 k2 k3
end
section
variable {c : Cx} {ρ : Store} {ω : Om}
/-- the exception's __init__ behind its record's making -/
theorem init31 {w : World} {G : Heap} {p : Program} {loose : List Str} {mean : ExcName → Option Value} {mg mb : Str → Option Value} {A : Around} {h : Heap} {g : Array GenState} {d : Drawn} {t : Nat} {os : OsState} {x t0 : Addr} {code : Str} {u : Tok} {Q E : Value → Shared → Prop}
    (X : (KF w).In G) (T : Top p loose mean mg mb G) (st : G.StaysIn h) (hroom : A.depth < recursionLimit)
    (hx : h.get? x = some { cls := .ref 34, data := .fields #[.ref t0, .none, .none, .none, .bool false, .none] }) (hxG : G.get? x = none)
    (hq : ∀ h' t' t1 dx m, (∀ b o, b ≠ x → h.get? b = some o → h'.get? b = some o) → (∃ o, h'.get? x = some o ∧ o.cls = .ref 34 ∧ o.dict = some dx ∧ o.data = .fields #[.ref t1, .none, .none, .none, .bool false, .none]) →
      h'.Ns dx m → m "code" = some (.str code u) → Q .none ⟨h', g, d, t', os⟩) :
    wpAny (model PRG w) A (call (.ref 31) [.ref x, .str code u]) Q E ⟨h, g, d, t, os⟩ := by
  obtain ⟨nm, q, bs, sn, sub, col, dd, k0, k1, k2, k3, k5, hC0⟩ := cls34 w
  have Xh : (KF w).In h := X.keeps st
  have hx34 : x ≠ 34 := fun e => by rw [e, X _ _ hC0] at hxG; cases hxG
  have hxs : x < h.objs.size := Heap.lt_size hx
  refine wpAny_call (ks_codeAny_call_defAt (fd := fnX _ _ _ _ _ [("__class__", 18)] _ _ _ _ _ _ _) (o := ⟨_, _, .func _, _⟩) (binds := [("self", .ref x), ("code", .str code u), ("told", .str (Str.ofString "") 203)]) hroom (Xh 31 _ rfl) rfl (T.nolimit.keeps st) (codeRec_of Xh (by exact rfl)) rfl ?hb ?hc ?hl ?hk rfl rfl rfl)
  case hb => exact .of_defaults (T := 23) rfl (Xh 23 _ rfl) rfl rfl rfl
  case hc => decide
  case hl =>
    intro y hy
    simp only [List.mem_cons, List.not_mem_nil, or_false] at hy
    rcases hy with rfl | rfl | rfl <;> rfl
  case hk =>
  intro h₀ hns hk₀
  dsimp only at hns hk₀
  have hx₀ := hk₀ _ _ hx
  have st₀ : G.StaysIn h₀ := fun b o e => hk₀ _ _ (st b o e)
  have X₀ := X.keeps st₀
  have hC := X₀ _ _ hC0
  have hLx : h.objs.size ≠ x := Nat.ne_of_gt hxs
  refine ks_wpAt_execs_cons (ks_wpAt_Expr_any (ks_wpAt_MethodCall (pl := pure false) ?_))
  refine ks_wpAt_super_base (f := 31) (cc := 30) rfl rfl (by decide) rfl (X₀ 31 _ rfl) rfl rfl rfl (X₀ 30 _ rfl) rfl rfl (by decide +kernel) (by decide +kernel) ?_
  refine ks_loadName_global rfl rfl (loadGlobal_builtin (T.g.keeps st₀) (mg_none_of X T.g (super_none w)) (T.b.keeps st₀) ((T.builtins _ (by decide +kernel)).trans (by kernel_rfl)) ⟨rfl, ?_⟩)
  refine wpAny_loadName_free rfl rfl rfl ⟨_, X₀ 18 _ rfl, rfl⟩ ?_
  refine wpAny_loadName_local rfl rfl hns rfl ?_
  refine ks_wpAny_isType_cls hC rfl ⟨rfl, ?_⟩
  refine ks_wpAny_call_super hC rfl hx₀ rfl (fun c e => by cases e) (looks_mroIn X₀ (mro34 w)) (fun h₁ hso hk₁ => ?_)
  refine sup_method (X₀.keeps hk₁) (hk₁ _ _ hx₀) rfl hx34 hso ?_
  have hmw : (h₁.push { cls := .type "method-wrapper", data := .fields #[.builtin "Exception.__init__", .ref x] }).get? h₁.objs.size = some { cls := .type "method-wrapper", data := .fields #[.builtin "Exception.__init__", .ref x] } := Heap.get?_push_size _ rfl
  have hk₂ : ∀ b o, h₀.get? b = some o → (h₁.push { cls := .type "method-wrapper", data := .fields #[.builtin "Exception.__init__", .ref x] }).get? b = some o := fun b o e => Heap.get?_push_of_some _ (hk₁ b o e)
  generalize h₁.push { cls := .type "method-wrapper", data := .fields #[.builtin "Exception.__init__", .ref x] } = h₂ at hmw hk₂ ⊢
  have hns₂ := hns.keeps hk₂
  refine callWith_mw rfl (evalArgs_of rfl (wpAny_items_cons (wpAny_Name (wpAny_loadName_local rfl rfl hns₂ rfl (wpAny_items_nil ⟨hmw, ?_⟩)) (by decide)) (starEach_cons rfl)))
  refine mw_call (X₀.keeps hk₂) (hk₂ _ _ hx₀) hmw fun h₃ t1 hk₃ hx₃ => ?_
  have hkx : ∀ b o, b ≠ x → h₀.get? b = some o → h₃.get? b = some o := fun b o hb e => hk₃ b o hb (hk₂ b o e)
  have neG : ∀ b o, G.get? b = some o → b ≠ x := fun b o e q => by rw [q, hxG] at e; cases e
  have st₃ : G.StaysIn h₃ := fun b o e => hkx b o (neG b o e) (st₀ b o e)
  have X₃ := X.keeps st₃
  have hns₃ : h₃.Ns h.objs.size _ := ns_upto hns fun o e => ⟨o.slots, hkx _ o hLx e⟩
  have N33 : h₃.Ns 33 (h₃.nsMap 33) := .of_isNs (isNs_of_in X₃ (ns33 w))
  -- self.code = code
  refine ks_wpAt_execs_cons (ks_wpAt_Assign_Attr ?_)
  refine wpAt_of_wpAny (wpAny_Name (wpAny_loadName_local rfl rfl hns₃ rfl ?_) (by decide))
  refine wpAny_Name (wpAny_loadName_local rfl rfl hns₃ rfl ?_) (by decide)
  refine store_new F.store_Exception (X₃ _ _ hC0) N33 (ns_none_of X₃ N33 (set33 w)) (ns_none_of X₃ N33 (code33 w)) noCode hx₃ rfl rfl rfl (fun h₄ t4 hkx₄ ho4 hns4 => ?_)
  have hx3s : x < h₃.objs.size := Heap.lt_size hx₃
  have I4 : h₄.Inst x 34 _ := ⟨_, ho4, rfl, fun c e => (by cases e), .inr ⟨_, rfl, Nat.ne_of_gt hx3s, hns4⟩⟩
  have st₄ : G.StaysIn h₄ := fun b o e => hkx₄ b o (neG b o e) (st₃ b o e)
  have X₄ := X.keeps st₄
  have hns₄ : h₄.Ns h.objs.size _ := ns_upto hns₃ fun o e => ⟨o.slots, hkx₄ _ o hLx e⟩
  have N33' : h₄.Ns 33 (h₄.nsMap 33) := .of_isNs (isNs_of_in X₄ (ns33 w))
  -- self.told = told
  refine ks_wpAt_execs_cons (ks_wpAt_Assign_Attr ?_)
  refine wpAt_of_wpAny (wpAny_Name (wpAny_loadName_local rfl rfl hns₄ rfl ?_) (by decide))
  refine wpAny_Name (wpAny_loadName_local rfl rfl hns₄ rfl ?_) (by decide)
  refine store_attr F.store_Exception (X₄ _ _ hC0) N33' (ns_none_of X₄ N33' (set33 w)) (ns_none_of X₄ N33' (told33 w)) noTold hx34 I4 (fun h₅ t5 I5 hk₅ hsame₅ => ?_) (ns := ["code"]) ?wi
  case wi => exact Within.cons "code" (.str code u) Within.nil
  obtain ⟨o5, ho5, hc5, hn5, hd5⟩ := id I5
  obtain ⟨o5', ho5', f1, f2, f3, f4⟩ := hsame₅ _ ho4
  rw [ho5] at ho5'; cases ho5'
  rcases hd5 with ⟨_, hbad⟩ | ⟨dx, hdx, hdxne, hns5⟩
  · have := hbad "told"; simp at this
  refine wpAt_of_wpAny (wpAny_execs_nil ?_)
  refine hq h₅ t5 t1 dx _ (fun b o hb e => ?_) ⟨o5, ho5, hc5, hdx, f2⟩ hns5.ns ?hcode
  case hcode =>
    show (if ("code" : Str) = "told" then _ else if ("code" : Str) = "code" then some (Value.str code u) else none) = _
    rw [if_neg (by decide), if_pos rfl]
  · have e0 := hkx b o hb (hk₀ b o e)
    refine hk₅ b o hb (fun o₀ dx' eo ed => ?_) (hkx₄ b o hb e0)
    rw [ho4] at eo; cases eo
    cases ed
    exact Nat.ne_of_lt (Heap.lt_size e0)
end
end Mine
end TextMS
section TextMT
open PySem PySem.W PySem.Calls PyProof.Rows
set_option Elab.async false
set_option linter.unusedVariables false
set_option maxRecDepth 100000
namespace Mine
section
variable {M : Model} {A : Around} {E : Value → Shared → Prop} {s : Shared} {env : Env} {nm q : Str} {C N : Addr} {bs bm : List Value} {hdct : Bool} {sn : List Str} {sub : List Value} {ab : Bool} {col : Option Bool} {dd : Option Addr} {k0 k1 k2 k3 k5 : Option Value} {newId : String}
theorem raise_inst {x : Sem Value} {Q : Flow → Shared → Prop} (hbase : bm.contains (.type "BaseException") = true) (hh : A.handled = none)
    (h : wpAny M A x (fun v s₁ => ∃ e oe vs, v = .ref e ∧ s₁.heap.get? C = some (excClassObj nm q C N bs bm hdct sn sub ab col dd k0 k1 k2 k3 k5 newId) ∧
      s₁.heap.get? e = some oe ∧ oe.cls = .ref C ∧ oe.data = .fields vs ∧ vs[1]? = some .none ∧ E (.ref e) s₁) E s) :
    wpAny M A (raiseStmt env (some x) none) Q E s := by
  have hcB : (Value.ref C :: bm).contains (.type "BaseException") = true := by rw [List.contains_cons, hbase, Bool.or_true]
  unfold raiseStmt
  refine wpAny_bind (wpAny_mono h (fun v s₁ h₁ => ?_) fun _ _ x => x)
  obtain ⟨e, oe, vs, rfl, hC, he, hc, hd, h1, hE⟩ := h₁
  obtain ⟨hp, g, d, tk, os⟩ := s₁
  have hnc : ∀ c, oe.data ≠ .cls c := fun c q => by rw [hd] at q; cases q
  repeat (first | (with_reducible refine ks_wpAny_isType_inst he hnc ?_) | (with_reducible refine wpAny_loadPart_at he ?_; rw [hc]) | with_reducible refine wpAny_loadPart_at hC ?_ | (with_reducible refine wpAny_isSubtype_exc hC ?_; rw [hcB]) | (with_reducible refine wpAny_field he hd h1 ?_) | wp_step)
  exact wpAny_raiseNew_none hh hE
end
section
variable {c : Cx} {ρ : Store} {ω : Om} {K : PV → Om → Prop} {X : Str → Om → Prop} {N : Store → Om → Prop} {R : PV → Om → Prop}
theorem typeCall_weight (a : Addr) (rest : List Value) : (Code.builtin "type.__call__" ⟨.ref a :: rest, []⟩).weight = 1 := by
  kernel_rfl
theorem S_raise (O : c.Ok) {np kp cpos pos : Pos} {k : Nat} {code : Str} (hdp : 2 ≤ c.d) (hx : c.cs.names.lookup ("BasicError" : Str) = some .globalImplicit) (hX : X code ω) :
    SS c (exec (.Raise (some (.Call (.Name "BasicError" np) [.Constant (.str code) k kp] [] cpos)) none pos) c.env) ρ ω N R X := fun s Q E f hN hR hE => by
  obtain ⟨nm, q, bs, sn, sub, col, dd, k0, k1, k2, k3, k5, hC0⟩ := cls34 c.w
  rw [arm_exec_Raise]
  show wpAny _ _ (do standAt pos; raiseStmt c.env (some (do let v ← eval (.Call (.Name "BasicError" np) [.Constant (.str code) k kp] [] cpos) c.env; standAt pos; pure v)) none) _ _ _
  refine wpAny_bind (wpAny_standAt (raise_inst (C := 34) (nm := nm) (q := q) (N := 33) (bs := bs) (bm := [.type "Exception", .type "BaseException", .type "object"]) (hdct := true) (sn := sn) (sub := sub) (ab := false) (col := col) (dd := dd) (k0 := k0) (k1 := k1) (k2 := k2) (k3 := k3) (k5 := k5) (newId := "Exception.__new__") (by decide +kernel) O.hand ?_))
  obtain ⟨m, FR⟩ := f.fr O
  refine wpAny_bind (wpAny_Call_ofName (nameX_K FR O.st.X (topRead_of O.st.T) (glob34 c.w) ?_ O.kind hx (by decide)))
  show wpAny _ _ (callWith cpos (.ref 34) [] (backTo cpos (starEach [.Constant (.str code) k kp] c.env)) []) _ _ _
  unfold callWith
  refine wpAny_bind (wpAny_holding (evalArgs_of rfl (wpAny_items_cons (wpAny_Constant_str (wpAny_items_nil (wpAny_bind (wpAny_standAt ?_)))) (starEach_cons rfl))))
  obtain ⟨h, g, d, t, os⟩ := s
  have Xh : (KF c.w).In h := O.st.X.keeps f.inv.stays
  have hC := Xh _ _ hC0
  have N33 : h.Ns 33 (h.nsMap 33) := .of_isNs (isNs_of_in Xh (ns33 c.w))
  refine wpAny_bind (wpAny_keeperOf_exc hC ?_)
  refine wpAny_bind ?_
  refine wpAny_call_exc_init F.excBase_Exception hC N33 (nsv_of Xh N33 (init33 c.w)) (Xh 31 _ rfl) rfl (fun h' e hm => ?_)
  obtain ⟨t0, he, ht0, htup⟩ := hm.there
  have hG : c.G.get? e = none := by
    cases z : c.G.get? e with
    | none => rfl
    | some o => have := f.inv.stays _ _ z; rw [hm.new] at this; cases this
  refine init31 O.st.X O.st.T (fun b o z => hm.keeps b o (f.inv.stays b o z)) ?_ he hG fun h₂ t₂ t1 dx mx hk₂ hex hns hcode => ⟨rfl, ?_⟩
  · show c.A.depth + Code.weight _ < _
    rw [typeCall_weight]
    have := O.depth; omega
  obtain ⟨oe, ho, hcl, hdx, hdt⟩ := hex
  have keep : ∀ b o, h.get? b = some o → h₂.get? b = some o := fun b o z => hk₂ b o (fun w => by rw [w, hm.new] at z; cases z) (hm.keeps b o z)
  refine wpAny_bind (wpAny_holding (wpAny_point (wpAny_pure ?_)))
  refine wpAny_bind (wpAny_standAt (wpAny_pure ⟨e, oe, _, rfl, keep _ _ hC, ho, hcl, hdt, rfl, ?_⟩))
  exact hE code e ω _ hX (f.ext keep).weak ⟨_, ⟨hG, oe, dx, mx, _, ho, hcl, hdx, hdt, rfl, hns, hcode⟩, .inl rfl⟩
end
end Mine
end TextMT
section TextMU
open PySem PySem.W PySem.Calls PyProof.Rows
set_option Elab.async false
set_option linter.unusedVariables false
set_option maxRecDepth 100000
namespace Mine
section
open Builtin Builtin.ObjectAttr
variable {prog : Program} {w : World} {A : Around} {E : Value → Shared → Prop} {h : Heap} {g : Array GenState} {d : Drawn} {t : Nat} {os : OsState}
variable {nm q : Str} {C N x dx : Addr} {bs bm : List Value} {sn : List Str} {sub : List Value} {ab : Bool} {col : Option Bool} {dd : Option Addr} {k0 k1 k2 k3 k5 : Option Value} {B newId : String} {mN mA : Str → Option Value} {name code : Str} {u : Tok} {o : Obj} {vs : Array Value}
theorem exc_entry {tk : Tok} {Q : PySem.Fin → Shared → Prop} (FB : ExcAttrBase B bm) (hC : h.get? C = some (excClassObj nm q C N bs bm true sn sub ab col dd k0 k1 k2 k3 k5 newId)) (hn : h.Ns N mN) (hna : mN name = none) (hB : typeLookup (.type B) name = pure none)
    (hx : h.get? x = some o) (hc : o.cls = .ref C) (hd : o.data = .fields vs) (hdx : o.dict = some dx) (hns : h.Ns dx mA) (hv : mA name = some (.str code u)) (hq : Q (.done (.ret (.str code u))) ⟨h, g, d, t, os⟩) :
    wpAny (model prog w) A (Builtin.«object.__getattribute__» ⟨[.ref x, .str name tk], []⟩) Q E ⟨h, g, d, t, os⟩ := by
  unfold Builtin.«object.__getattribute__»
  repeat (first | (with_reducible refine wpAny_loadPart_at hx ?_; rw [hc]) | with_reducible refine wpAny_loadPart_at hC ?_ | (with_reducible refine wpAny_typeLookup_exc hC hn FB.mro hB ?_; rw [hna]) | wp_step)
  rw [hd]
  unfold instanceDict
  repeat (first | (with_reducible refine wpAny_loadPart_at hx ?_; rw [hc]) | with_reducible refine wpAny_loadPart_at hC ?_ | wp_step)
  rw [hdx]
  repeat (first | (with_reducible refine wpAny_nsGet hns ?_; rw [hv]) | wp_step)
  exact hq
theorem exc_check {M : Model} {nameV : Value} {Q : Unit → Shared → Prop} (FB : ExcAttrBase B bm) (hC : h.get? C = some (excClassObj nm q C N bs bm true sn sub ab col dd k0 k1 k2 k3 k5 newId)) (hx : h.get? x = some o) (hc : o.cls = .ref C) (hq : Q () ⟨h, g, d, t, os⟩) :
    wpAny M A (checkBuiltinCall "BaseException.__getattribute__" ⟨[.ref x, nameV], []⟩) Q E ⟨h, g, d, t, os⟩ := by
  have hk : builtinKind "BaseException.__getattribute__" = some .slot := by decide +kernel
  have hs : splitId "BaseException.__getattribute__" = some ("BaseException", "__getattribute__") := by decide +kernel
  have hcB : (Value.ref C :: bm).contains (.type "BaseException") = true := by rw [List.contains_cons, FB.hasBase, Bool.or_true]
  have ha := F.args_bexc_ga (.ref x) nameV
  simp only [checkBuiltinCall, hk, hs]
  refine wpAny_bind ?_
  · unfold isInstance
    repeat (first | (with_reducible refine wpAny_loadPart_at hx ?_; rw [hc]) | (with_reducible refine wpAny_isSubtype_exc hC ?_; rw [hcB]) | wp_step)
    exact hq
theorem exc_attr {expr : Bool} {Q : Value → Shared → Prop} (FB : ExcAttrBase B bm) (hC : h.get? C = some (excClassObj nm q C N bs bm true sn sub ab col dd k0 k1 k2 k3 k5 newId)) (hn : h.Ns N mN) (hng : mN "__getattribute__" = none) (hnh : mN "__getattr__" = none) (hna : mN name = none) (hB : typeLookup (.type B) name = pure none)
    (hx : h.get? x = some o) (hc : o.cls = .ref C) (hd : o.data = .fields vs) (hdx : o.dict = some dx) (hns : h.Ns dx mA) (hv : mA name = some (.str code u)) (hq : Q (.str code u) ⟨h, g, d, t + 1, os⟩) :
    wpAny (model prog w) A (getAttr (.ref x) name expr) Q E ⟨h, g, d, t, os⟩ := by
  have f3 := FB.ga.bind (.ref x)
  have hx0 : (expr && onTheHeap (Value.builtin "BaseException.__getattribute__")) = false := by cases expr <;> rfl
  have hx2 : (Value.builtin "BaseException.__getattribute__" == Value.builtin "object.__getattribute__") = false := by decide +kernel
  have hx1 : (onTheHeap (Value.ref C) && Value.builtin "BaseException.__getattribute__" == Value.builtin "object.__getattribute__") = false := by rw [hx2]; rfl
  unfold getAttr
  repeat (any_goals (first | assumption | (with_reducible refine wpAny_loadPart_at hx ?_; rw [hc]) | (with_reducible refine wpAny_typeLookup_exc hC hn FB.mro FB.ga.lookup ?_; rw [hng]) | (with_reducible refine wpAny_typeLookup_exc hC hn FB.mro FB.noGetattr ?_; rw [hnh]) | wp_step))
  refine codeAny_call_builtin FB.ga.plain F.entry_bexc_ga (exc_check FB hC hx hc (exc_entry FB hC hn hna hB hx hc hd hdx hns hv ?_))
  repeat (any_goals (first | assumption | wp_step))
end
end Mine
end TextMU
section TextMV
open PySem PySem.W PySem.Calls PyProof.Rows
set_option Elab.async false
set_option linter.unusedVariables false
set_option maxRecDepth 100000
namespace Mine
section
variable {c : Cx} {ρ : Store} {ω : Om} {K : PV → Om → Prop} {X : Str → Om → Prop} {N : Store → Om → Prop} {R : PV → Om → Prop}
theorem FrI.blank (f : FrI c ρ ω s) (n : Nat) : FrI c (List.replicate n none) ω s := ⟨f.inv, f.ff, f.kp, f.ns, f.cel, fun i pv h => by
  unfold Store.get at h
  rw [List.getElem?_replicate] at h
  split at h
  · rename_i o ho
    split at ho <;> cases ho
    cases h
  · cases h⟩
theorem FrI.nsGone (O : c.Ok) (f : FrI c ρ ω s) {h' : Heap} {m : Str → Option Value} (hn : h'.Ns c.L m) (hs : Heap.SameBut c.L s.heap h') : FrI c [] ω { s with heap := h' } := by
  obtain ⟨m0, o, es, ep, hoL, hdL, _⟩ := f.ns
  have hf : Foreign c.toSt s.heap c.L := ⟨O.newL, fun o' e => by rw [hoL] at e; cases e; exact .inr (.inl ⟨_, _, hdL⟩)⟩
  refine ⟨f.inv.foreign (tk := s.toks) hs.extBut hf, f.ff.but hs.extBut O.outL, f.kp.same hs O.heL, ⟨_, hn⟩, fun x k h => ?_, fun i pv h => by simp [Store.get] at h⟩
  obtain ⟨v, o, ho, hd⟩ := f.cel x k h
  exact ⟨v, o, (hs.2 k (O.cells x k h).2.1).trans ho, hd⟩
theorem S_catch (O : c.Ok) {np p1 p2 p3 p4 p5 hp pos : Pos} {k i : Nat} {body : List Stmt} (hx : c.cs.names.lookup ("BasicError" : Str) = some .globalImplicit) (he : c.cs.names.lookup ("error" : Str) = some .local) (hi : c.vars[i]? = some "error")
    (h : SS c (execs body c.env) ρ ω (fun _ _ => False) R (fun code ω' => code.length ≤ 10 ∧ R (.str ("!" ++ code)) ω')) :
    SS c (exec (.Try body [.ExceptHandler (some (.Name "BasicError" np)) (some "error") [.Return (some (.BinOp (.Constant (.str "!") k p1) .Add (.Attribute (.Name "error" p2) "code" p3) p4)) p5] hp] [] [] pos) c.env) ρ ω N R X := fun s Q E f hN hR hE => by
  obtain ⟨nm, q, bs, sn, sub, col, dd, k0, k1, k2, k3, k5, hC0⟩ := cls34 c.w
  refine wpAny_Try_except (h s _ _ f (fun _ _ _ z => z.elim) (fun pv v ω' s' r f rv => hR pv v ω' s' r f rv) fun code ea ω₁ s₁ hX f₁ x₁ => ?_)
  -- the frame is noted, the flight's mark is taken
  refine note_exc (c := c.toSt) O.frames (f₁.ffAll O) rfl f₁.inv x₁ fun h₂ i₂ k₂ x₂ => ?_
  have f₂ := f₁.step i₂ k₂
  refine flight_exc (c := c.toSt) (s := { s₁ with heap := h₂ }) (f₂.ffAll O) i₂ x₂ fun h₃ i₃ k₃ x₃ => ?_
  have f₃ := f₂.step i₃ k₃
  -- the clause's test
  refine wpAny_handleBy_cons (codeAny_handlers_test ?_) (by intro q; cases q)
  obtain ⟨m₃, FR⟩ := f₃.fr O
  refine nameX_K FR O.st.X (topRead_of O.st.T) (glob34 c.w) ?_ O.kind hx (by decide)
  have Xh : (KF c.w).In h₃ := O.st.X.keeps f₃.inv.stays
  have hC := Xh _ _ hC0
  obtain ⟨vs, ⟨g, oe, dx, m, t, hoe, hcl, hdx, hd, hsz, hn, hm⟩, hv⟩ := id x₃
  refine wpAny_excMatches_sub_self (g := s₁.gens) (d := s₁.drawn) (t := s₁.toks) (os := s₁.os) hC hoe hcl (by decide +kernel) ?_
  show codeAny _ _ (.handlers (.ref ea) [.ExceptHandler none (some "error") [_] hp] c.env) _ _
  refine codeAny_handlers_suite_as ?_
  refine flight_excAt (c := c.toSt) (s := { s₁ with heap := h₃ }) (f₃.ffAll O) i₃ x₃ fun h₄ i₄ k₄ x₄ => ?_
  have f₄ := f₃.step i₄ k₄
  have hi' : i < (List.replicate (i + 1) (none : Option PV)).length := by simp
  refine (f₄.blank (i + 1)).store' O hi hi' (.inl he) (pv := .adr ea) (vr_adr.mpr rfl) fun s₅ f₅ kn₅ nb₅ => ?_
  -- return '!' + error.code
  refine wpAny_execs_cons ?_
  refine wpAny_Return_some (wpAny_BinOp (wpAny_Constant_str (Attribute_name ?_)))
  have ga : Store.get ((List.replicate (i + 1) none).set i (some (.adr ea))) i = some (.adr ea) := by rw [Store.get_set hi', if_pos rfl]
  obtain ⟨x', v', ex', y', r'⟩ := f₅.vars i _ ga
  rw [hi] at ex'; cases ex'
  obtain rfl := vr_adr.mp r'
  rcases y' with ⟨_, mL, hL, hLv⟩ | ⟨bad | bad, _⟩
  case inr.inl => rw [he] at bad; cases bad
  case inr.inr => rw [he] at bad; cases bad
  refine wpAny_Name (wpAny_loadName_local O.kind he hL hLv ?_) (by decide)
  obtain ⟨vs4, ⟨g4, oe4, dx4, m4, t4, hoe4, hcl4, hdx4, hd4, hsz4, hn4, hm4⟩, hv4⟩ := id x₄
  obtain ⟨h₅, gg, dd5, tk5, os5⟩ := s₅
  have X5 : (KF c.w).In h₅ := O.st.X.keeps f₅.inv.stays
  have N33 : h₅.Ns 33 (h₅.nsMap 33) := .of_isNs (isNs_of_in X5 (ns33 c.w))
  obtain ⟨m5, hn5, hm5⟩ := nb₅.ns dx4 m4 hn4
  refine exc_attr F.attrBase_Exception (X5 _ _ hC0) N33 (ns_none_of X5 N33 (ga33 c.w)) (ns_none_of X5 N33 (gm33 c.w)) (ns_none_of X5 N33 (code33 c.w)) noCode (nb₅.recs ea oe4 vs4 hoe4 hd4) hcl4 hd4 hdx4 hn5 ((hm5 "code" (by decide)).trans hm4) ?_
  refine PyProof.Rows.add_str (fun t' tk => ?_) (by have := hX.1; rw [sizeLine_eq, show ("!" : Str).length = 1 from rfl]; omega)
  -- error = None; del error
  refine wpAny_bind (wpAny_bindName ?_)
  have f₆ : FrI c ((List.replicate (i + 1) none).set i (some (.adr ea))) ω₁ { heap := h₅, gens := gg, drawn := dd5, toks := tk, os := os5 } := f₅.tok
  refine f₆.store' O hi (by simp) (.inl he) (pv := .non) (by unfold Vr; rfl) fun s₇ f₇ _ _ => ?_
  have ga7 : Store.get (((List.replicate (i + 1) none).set i (some (.adr ea))).set i (some .non)) i = some .non := by rw [Store.get_set (by simp), if_pos rfl]
  obtain ⟨x', v', ex', y', r'⟩ := f₇.vars i _ ga7
  rw [hi] at ex'; cases ex'
  rcases y' with ⟨_, mL, hL7, hLv7⟩ | ⟨bad | bad, _⟩
  case inr.inl => rw [he] at bad; cases bad
  case inr.inr => rw [he] at bad; cases bad
  unfold unbindBehindTheSuite
  refine wpAny_onRaise (wpAny_unbindName_local he hL7 hLv7 (by show (c.cs.kind == .class || (c.cs.kind == .module && _)) = false; rw [O.kind]; rfl) fun h₈ u hL8 hs8 => ?_)
  exact hR _ _ ω₁ _ hX.2 (f₇.nsGone O hL8 hs8) (vr_str.mpr ⟨_, rfl⟩)
end
end Mine
end TextMV
section TextMW
open PySem PySem.W PySem.Calls PyProof.Rows
set_option Elab.async false
set_option linter.unusedVariables false
set_option maxRecDepth 100000
namespace Mine
theorem codeAmong_append {pos : Pos} (r : List Value) : ∀ (l : List Value), TriplesOk l → codeAmong pos (l ++ r) = (codeAmong pos l).or (codeAmong pos r)
  | [], _ => rfl
  | .int a t :: .int b u :: x :: rest, h => by
    simp only [List.cons_append, codeAmong]
    split
    · rfl
    · exact codeAmong_append r rest h
theorem codeAmong_one {pos p : Pos} {c v : Value} (h : codeAmong pos [rawInt p.line, rawInt p.col, c] = some v) : v = c := by
  simp only [rawInt, codeAmong] at h
  split at h
  · exact (Option.some.inj h).symm
  · cases h
section
variable {c : St} {ω : Om} {s : Shared}
theorem TabI.rec_ne {h : Heap} {P c' : Addr} {ps : Array Value} {q : Str} (hP : h.get? P = some (tabObj ps)) (ht : TriplesOk ps.toList) (x : h.CodeRec (.ref c') q) : c' ≠ P := fun e => by
  obtain ⟨c₂, o, vs, t, e₂, g, d, r⟩ := x
  cases e₂
  rw [e, hP] at g; cases g
  cases d
  exact triples_no_str ht q t (by simpa using r)
theorem TabI.other {h h' : Heap} {P P' : Addr} {ps : Array Value} {q : Str} (x : TabI h P' q) (hP : h.get? P = some (tabObj ps)) (ht : TriplesOk ps.toList) (hx : Heap.ExtBut P h h') (hne : P' ≠ P) : TabI h' P' q := by
  obtain ⟨ps', e, t, r⟩ := x
  refine ⟨ps', hx P' _ hne e, t, fun pos cv hc => ?_⟩
  obtain ⟨⟨c', rfl⟩, hr⟩ := r pos cv hc
  refine ⟨⟨c', rfl⟩, ?_⟩
  have hne' := TabI.rec_ne hP ht hr
  obtain ⟨c₂, o, vs, tq, e1, e2, e3, e4⟩ := hr
  cases e1
  exact ⟨c', o, vs, tq, rfl, hx c' o hne' e2, e3, e4⟩
theorem Inv.table (O : c.Ok) (i : Inv c ω s) {P : Addr} {q : Str} {ps : Array Value} {h' : Heap} {tk : Nat} (hPq : (P = 334 ∧ q = qA) ∨ (P = 327 ∧ q = qB)) (hP : s.heap.get? P = some (tabObj ps)) (ht : TriplesOk ps.toList) (hx : Heap.ExtBut P s.heap h')
    (hn : TabI h' P q) : Inv c ω { s with heap := h', toks := tk } := by
  have hG : c.G.get? P = none := by
    rcases hPq with ⟨rfl, _⟩ | ⟨rfl, _⟩
    · exact O.nA
    · exact O.nB
  have hbx : c.bx ≠ P := fun e => by
    obtain ⟨o, vs, n, e', d⟩ := i.bxs
    rw [e, hP] at e'; cases e'; cases d
  refine ⟨i.gens, i.os, fun b o e => hx b o (fun z => by rw [z, hG] at e; cases e) (i.stays b o e), ?_, ?_, ?_, fun b0 b1 hq => ?_⟩
  · rcases hPq with ⟨rfl, rfl⟩ | ⟨rfl, rfl⟩
    · exact hn
    · exact i.tabA.other hP ht hx (by decide)
  · rcases hPq with ⟨rfl, rfl⟩ | ⟨rfl, rfl⟩
    · exact i.tabB.other hP ht hx (by decide)
    · exact hn
  · obtain ⟨o, vs, n, e, d⟩ := i.bxs
    exact ⟨o, vs, n, hx _ _ hbx e, d⟩
  · obtain ⟨g, o, n, t0, t1, e, r⟩ := i.box b0 b1 hq
    exact ⟨g, o, n, t0, t1, hx _ _ hbx e, r⟩
theorem Kp.table {bx P : Addr} {h h' : Heap} {ps : Array Value} (hP : h.get? P = some (tabObj ps)) (ht : TriplesOk ps.toList) (hx : Heap.ExtBut P h h') : Kp bx h h' := by
  have ne : ∀ b o, h.get? b = some o → Keptd o → b ≠ P := fun b o e hk z => by
    rw [z, hP] at e; cases e
    rcases hk ps rfl with ⟨k, _⟩ | ⟨q, t, k⟩
    · exact k rfl
    · exact triples_no_str ht q t (by simpa using k)
  exact ⟨fun b o e _ hk => ⟨o.slots, hx b o (ne b o e hk) e⟩, fun b o e _ hk _ => hx b o (ne b o e hk) e⟩
end
theorem clos_go {env : Env} {κ : Str → Addr} {f : Str × NameKind → List (Str × Addr) → Sem (ForInStep (List (Str × Addr)))}
    (hf : ∀ n k acc, f (n, k) acc = if k == .free then (do let a ← cellOf env n; pure (.yield ((n, a) :: acc))) else pure (.yield acc)) :
    ∀ (l : List (Str × NameKind)) (acc : List (Str × Addr)), (∀ p ∈ l, p.2 = .free → env.cells.lookup p.1 = some (κ p.1)) →
      (forIn l acc f : Sem (List (Str × Addr))) = pure (((l.filter (fun p => p.2 == .free)).map fun p => (p.1, κ p.1)).reverse ++ acc)
  | [], acc, _ => by rw [List.forIn_nil]; rfl
  | (n, k) :: l, acc, h => by
    rw [List.forIn_cons, hf]
    have ih := fun acc => clos_go (κ := κ) hf l acc fun p hp => h p (.tail _ hp)
    by_cases q : k == .free
    · rw [if_pos q]
      have e : cellOf env n = pure (κ n) := by
        unfold cellOf
        rw [h (n, k) (.head _) (by simpa using q)]
      rw [e, pure_bind, pure_bind]
      show (forIn l ((n, κ n) :: acc) f : Sem _) = _
      rw [ih, List.filter_cons_of_pos (by simpa using q)]
      simp
    · rw [if_neg q, pure_bind]
      show (forIn l acc f : Sem _) = _
      rw [ih, List.filter_cons_of_neg (by simpa using q)]
theorem closureFor_eq {scope : Scope} {env : Env} {κ : Str → Addr} (h : ∀ p ∈ scope.names, p.2 = .free → env.cells.lookup p.1 = some (κ p.1)) :
    closureFor scope env = pure (((scope.names.filter (fun p => p.2 == .free)).map fun p => (p.1, κ p.1)).reverse) := by
  unfold closureFor
  have e := clos_go (κ := κ) (env := env) (f := fun x r => match x with
    | (name, kind) => if (kind == .free) = true then (do let a ← cellOf env name; pure (.yield ((name, a) :: r))) else pure (.yield r)) (fun n k acc => rfl) scope.names [] h
  rw [List.append_nil] at e
  first
    | exact (bind_pure _).symm.trans (by rw [e]; rfl)
    | (rw [← e]; simp)
    | skip
end Mine
end TextMW
section TextMX
open PySem PySem.W PySem.Calls PyProof.Rows
set_option Elab.async false
set_option linter.unusedVariables false
set_option maxRecDepth 100000
namespace Mine
section
variable {c : Cx} {ρ : Store} {ω : Om} {s : Shared} {K : PV → Om → Prop} {X : Str → Om → Prop} {N : Store → Om → Prop} {R : PV → Om → Prop}
noncomputable abbrev lamFn (q : Str) (params : Arguments) (body : Expr) (scope : Scope) (cl : List (Str × Addr)) (pm cdv ct : Value) : FuncData := kla_fn "<lambda>" q params body scope cl pm cdv ct
/-- a lambda that stands in a heap -/
noncomputable def Lam (h : Heap) (fa : Addr) (q : Str) (params : Arguments) (body : Expr) (scope : Scope) (clos : List (Str × Addr)) : Prop :=
  ∃ o pm cd ct, h.get? fa = some o ∧ o.data = .func (lamFn q params body scope clos pm (.ref cd) ct) ∧ h.CodeRec (.ref cd) q
structure LamHd (c : Cx) (P : Addr) (q : Str) : Prop where
  code : ∃ cc, c.ccd = .ref cc ∧ CodeHd c.G cc P
  name : c.env.qual ++ "<lambda>" = q
  which : (P = 334 ∧ q = qA) ∨ (P = 327 ∧ q = qB)
theorem lam_at (O : c.Ok) (f : FrI c ρ ω s) {P : Addr} {q : Str} (H : LamHd c P q) {params : Arguments} {body : Expr} {scope : Scope} {lpos : Pos} {κ : Str → Addr} {Q E : Value → Shared → Prop} (hdef : defaultsOf params c.env = ([], []))
    (hfree : ∀ p ∈ scope.names, p.2 = .free → c.cl.lookup p.1 = some (κ p.1))
    (hQ : ∀ fa h' tk, Inv c.toSt ω { s with heap := h', toks := tk } → Kp c.bx s.heap h' → Lam h' fa q params body scope (((scope.names.filter (fun p => p.2 == .free)).map fun p => (p.1, κ p.1)).reverse) → Q (.ref fa) { s with heap := h', toks := tk }) :
    wpAny (model PRG c.w) c.A (eval (.Lambda params body scope lpos) c.env) Q E s := by
  obtain ⟨cc, hcc, hCd⟩ := H.code
  have T := O.st.T
  have st := f.inv.stays
  have hg := T.g.keeps st
  have tabI : TabI s.heap P q := by
    rcases H.which with ⟨rfl, rfl⟩ | ⟨rfl, rfl⟩
    · exact f.inv.tabA
    · exact f.inv.tabB
  obtain ⟨ps, hP, ht, hr⟩ := id tabI
  obtain ⟨bm, ob, b1, b2, b3, b4, b5, b6⟩ := T.bmain
  have hgP : mainGlobals ≠ P := fun z => by
    obtain ⟨o, es, ep, e, hd, _⟩ := hg
    rw [z, hP] at e; cases e; cases hd
  have hbP : bm ≠ P := fun z => by
    have e := st _ _ b3
    rw [z, hP] at e; cases e; cases b4
  have hbG : bm ≠ mainGlobals := fun z => by
    obtain ⟨o, es, ep, e, hd, _⟩ := T.g
    rw [z, e] at b3; cases b3; rw [hd] at b6; cases b6
  have hb : s.heap.BuiltinsAt c.mg P := ⟨bm, ob, b1, b2, hbG, hbP, st _ _ b3, b4, b5, b6⟩
  refine kla_eval hdef ?_
  rw [H.name]
  cases hf : codeAmong lpos ps.toList with
  | none =>
    refine kla_makeFunction (mg := c.mg) (closureFor_eq hfree) rfl hg hcc (hCd.keeps st) hP ht hf hgP hb fun c' ctv h' tk hx hge hlt hrec htb => ?_
    have hx' : Heap.ExtBut P s.heap h' := hx
    have kT := Kp.table (bx := c.bx) hP ht hx'
    have pk : ∀ (o : Obj) b ob, h'.get? b = some ob → (h'.push o).get? b = some ob := fun o => push_keeps
    refine hQ _ _ tk (f.inv.table O.st H.which hP ht (fun b o hb e => pk _ b o (hx' b o hb e)) ⟨_, pk _ _ _ htb, ?_, fun pos cv hc => ?_⟩) (kT.trans (.of_keeps (pk _))) ⟨_, _, c', _, Heap.get?_push_size _ rfl, rfl, hrec.keeps (pk _)⟩
    · rw [show (ps ++ #[rawInt lpos.line, rawInt lpos.col, Value.ref c']).toList = ps.toList ++ [rawInt lpos.line, rawInt lpos.col, Value.ref c'] by simp]
      exact TriplesOk_snoc _ _ _ _ ht
    · rw [show (ps ++ #[rawInt lpos.line, rawInt lpos.col, Value.ref c']).toList = ps.toList ++ [rawInt lpos.line, rawInt lpos.col, Value.ref c'] by simp, codeAmong_append _ _ ht] at hc
      cases ho : codeAmong pos ps.toList with
      | none =>
        rw [ho] at hc
        obtain rfl := codeAmong_one hc
        exact ⟨⟨c', rfl⟩, hrec.keeps (pk _)⟩
      | some cv' =>
        rw [ho] at hc
        cases hc
        obtain ⟨⟨c₂, rfl⟩, hr2⟩ := hr pos _ ho
        refine ⟨⟨c₂, rfl⟩, ?_⟩
        have hne := TabI.rec_ne hP ht hr2
        obtain ⟨c₃, o, vs, tq, e1, e2, e3, e4⟩ := hr2
        cases e1
        exact ⟨c₂, o, vs, tq, rfl, pk _ _ _ (hx' c₂ o hne e2), e3, e4⟩
  | some cv =>
    obtain ⟨⟨c', rfl⟩, hrec⟩ := hr lpos cv hf
    refine kla_makeFunctionHit (mg := c.mg) (closureFor_eq hfree) rfl hg hcc (hCd.keeps st) hP ht hf hb fun ctv h' tk hk hsz => ?_
    have pk : ∀ (o : Obj) b ob, s.heap.get? b = some ob → (h'.push o).get? b = some ob := fun o b ob e => push_keeps _ _ (hk b ob e)
    exact hQ _ _ tk (f.inv.ext (pk _)) (.of_keeps (pk _)) ⟨_, _, c', _, Heap.get?_push_size _ rfl, rfl, hrec.keeps (pk _)⟩
noncomputable def lamOk (sc : Scope) : Bool :=
  sc.kind == .function && !sc.isCoroutine && !sc.isGenerator && (sc.names.all fun p => p.2 != .cell)
/-- a lambda without arguments is called -/
theorem lam_call (O : c.Ok) (f : FrI c ρ ω s) {fa : Addr} {q : Str} {params : Arguments} {body : Expr} {scope : Scope} {clos : List (Str × Addr)} {vars : List Str} {ps : List PV} {Q E : Value → Shared → Prop} (hlam : Lam s.heap fa q params body scope clos) (hdp : 1 ≤ c.d)
    (hbind : ∀ pm cd ct, bindArgs (lamFn q params body scope clos pm cd ct) ⟨[], []⟩ = pure []) (hsc : lamOk scope = true) (hnd : vars.Nodup)
    (hcl : ∀ x k, clos.lookup x = some k → c.G.get? k = none ∧ k ≠ c.bx) (hinj : ∀ x y k, clos.lookup x = some k → clos.lookup y = some k → x = y)
    (hcells : ∀ x k, clos.lookup x = some k → ∃ v, s.heap.IsCell k v)
    (hvars : ∀ (i : Nat) pv, ps[i]? = some pv → ∃ x k v, vars[i]? = some x ∧ scope.names.lookup x = some .free ∧ clos.lookup x = some k ∧ s.heap.IsCell k (some v) ∧ Vr c.bx s.heap pv v)
    (hQ : ∀ b a ω' s', K b ω' → Inv c.toSt ω' s' → Kp c.bx s.heap s'.heap → Vr c.bx s'.heap b a → Q a s')
    (hE : ∀ code ea ω' s', X code ω' → Inv c.toSt ω' s' → Kp c.bx s.heap s'.heap → ExcAt c.G (c.env :: c.outer) s'.heap ea code → E (.ref ea) s')
    (h : ∀ c' : Cx, c'.Ok → c'.d + 1 = c.d → c'.cs = scope → c'.vars = vars → SE c' body (ps.map some) ω K X) :
    wpAny (model PRG c.w) c.A (call (.ref fa) []) Q E s := by
  simp only [lamOk, Bool.and_eq_true, Bool.not_eq_true', beq_iff_eq] at hsc
  obtain ⟨⟨⟨hk, hco⟩, hgen⟩, hcell⟩ := hsc
  rw [List.all_eq_true] at hcell
  obtain ⟨o, pm, cd, ct, ho, hd, hrec⟩ := hlam
  refine wpAny_call (kla_callFunE (by have := O.depth; omega) ho hd hco hgen rfl hrec ?_)
  rw [hbind]
  refine wpAny_pure (wpAny_newFunctionEnv (fun x hx q => by have := hcell x hx; rw [q] at this; cases this) (fun x hx => by cases hx) (fun h₁ hns hsb => ⟨(f.inv.noLimit O.st).fresh _ hsb, ?_⟩) hk)
  have hk₁ : ∀ b o, s.heap.get? b = some o → h₁.get? b = some o := fun b o e => hsb.extBut b o (Nat.ne_of_lt (Heap.lt_size e)) (Heap.get?_push_of_some _ e)
  have hfr := f.frameLt O
  let c' : Cx := { c with A := c.A.deeper (envX q scope s.heap.objs.size fa (.ref cd) clos), d := c.d - 1, cn := q, cs := scope, L := s.heap.objs.size, a := fa, ccd := .ref cd, cl := clos, outer := c.env :: c.outer, he := s.heap, vars := vars, own := false }
  have O' : c'.Ok := {
    st := O.st
    hand := O.hand
    frames := by show (c.A.frames.map _) = _; rw [O.frames]; rfl
    guards := O.guards
    depth := by show c.A.depth + 1 + (c.d - 1) < _; have := O.depth; omega
    units := by show c.A.units + 3 + 20 * (c.d - 1) < _; have := O.units; omega
    kind := hk
    above := Nat.le_trans O.above (Nat.le_of_lt f.Lsize)
    heL := Heap.get?_none_of_le (Nat.le_refl _)
    cells := fun x k e => ⟨(hcl x k e).1, fun z => by
      obtain ⟨v, o, ho, _⟩ := hcells x k e
      exact Nat.lt_irrefl _ (z ▸ Heap.lt_size ho), (hcl x k e).2, fun z => by cases z⟩
    inj := hinj
    outL := fun e he q => absurd (hfr e he _ q) (Nat.lt_irrefl _)
    nodup := hnd }
  have F' : FrI c' (ps.map some) ω { s with heap := h₁, toks := s.toks + ([] : List (Str × Value)).length } := {
    inv := f.inv.ext hk₁
    ff := (f.ffAll O).step f.inv (.of_keeps hk₁)
    kp := .of_keeps hk₁
    ns := ⟨_, hns⟩
    cel := fun x k e => let ⟨v, o, ho, hd⟩ := hcells x k e; ⟨v, o, hk₁ _ _ ho, hd⟩
    vars := fun i pv e => by
      have hp : ps[i]? = some pv := by
        unfold Store.get at e
        rw [List.getElem?_map] at e
        cases hps : ps[i]? with
        | none => rw [hps] at e; cases e
        | some p => rw [hps] at e; exact e
      obtain ⟨x, k, v, e1, e2, e3, ⟨o, ho, hd⟩, e5⟩ := hvars i pv hp
      exact ⟨x, v, e1, .inr ⟨.inr e2, k, e3, o, hk₁ _ _ ho, hd⟩, e5.mono (.of_keeps hk₁)⟩ }
  show codeAny _ _ (.expr body (envX q scope s.heap.objs.size fa (.ref cd) clos)) _ _
  refine kla_codeExpr ?_
  refine h c' O' (by show c.d - 1 + 1 = c.d; omega) rfl rfl _ _ _ F' (fun b a ω' s' k i kp r => ?_) fun code ea ω' s' x i kp xe => ?_
  · exact hQ b a ω' s' k i ((Kp.of_keeps hk₁).trans kp) r
  · have f' := F'.step i kp
    exact leaves_exc (c := c.toSt) O'.frames (f'.ffAll O') rfl i xe fun h' i' k' x' => hE code ea ω' _ x i' (((Kp.of_keeps hk₁).trans kp).trans k') x'
end
end Mine
end TextMX
section TextMY
open PySem PySem.W PySem.Calls PyProof.Rows
set_option Elab.async false
set_option linter.unusedVariables false
set_option maxRecDepth 100000
namespace Mine
theorem lookup_mk {κ : Str → Addr} : ∀ {l : List Str} {x : Str} {k : Addr}, (l.map fun x => (x, κ x)).lookup x = some k → x ∈ l ∧ k = κ x
  | [], _, _, h => by cases h
  | y :: l, x, k, h => by
    rw [List.map_cons, List.lookup_cons] at h
    cases q : (x == y) with
    | true =>
      rw [q] at h
      simp only [Option.some.injEq] at h
      obtain rfl := beq_iff_eq.mp q
      exact ⟨.head _, h.symm⟩
    | false =>
      rw [q] at h
      have := lookup_mk h
      exact ⟨.tail _ this.1, this.2⟩
theorem lookup_mk' {κ : Str → Addr} : ∀ {l : List Str} {x : Str}, x ∈ l → (l.map fun x => (x, κ x)).lookup x = some (κ x)
  | y :: l, x, h => by
    rw [List.map_cons, List.lookup_cons]
    cases q : (x == y) with
    | true =>
      obtain rfl := beq_iff_eq.mp q
      rfl
    | false =>
      rcases List.mem_cons.mp h with rfl | h
      · simp at q
      · exact lookup_mk' h
theorem mem_of_lookup_kind : ∀ {l : List (Str × NameKind)} {x : Str} {k : NameKind}, l.lookup x = some k → (x, k) ∈ l
  | [], _, _, h => by cases h
  | (y, k') :: l, x, k, h => by
    rw [List.lookup_cons] at h
    cases q : (x == y) with
    | true =>
      rw [q] at h
      simp only [Option.some.injEq] at h
      obtain rfl := beq_iff_eq.mp q
      rw [h]; exact .head _
    | false =>
      rw [q] at h
      exact .tail _ (mem_of_lookup_kind h)
theorem glob283 (w : World) : nsIn (KF w) mainGlobals "_law_heard" = some (some (.ref 283)) := by kernel_rfl
section
variable {c : Cx} {ρ : Store} {ω : Om} {s : Shared} {K : PV → Om → Prop} {X : Str → Om → Prop} {N : Store → Om → Prop} {R : PV → Om → Prop}
theorem SE_heard (O : c.Ok) {P : Addr} {q : Str} (H : LamHd c P q) {np lpos pos : Pos} {params : Arguments} {lbody : Expr} {scope : Scope} {vars : List Str} {ps : List PV}
    (hx : c.cs.names.lookup ("_law_heard" : Str) = some .globalImplicit) (hdef : defaultsOf params c.env = ([], []))
    (hbind : ∀ clos pm cd ct, bindArgs (lamFn q params lbody scope clos pm cd ct) ⟨[], []⟩ = pure []) (hsc : lamOk scope = true) (hnd : vars.Nodup)
    (hfree : ∀ p ∈ scope.names, p.2 = .free → (c.cl.lookup p.1).isSome = true)
    (hvars : ∀ (i : Nat) pv, ps[i]? = some pv → ∃ x j, vars[i]? = some x ∧ scope.names.lookup x = some .free ∧ c.vars[j]? = some x ∧ c.cs.names.lookup x = some .cell ∧ ρ.get j = some pv)
    (hdp : 4 ≤ c.d)
    (h : ∀ c' : Cx, c'.Ok → c'.d + 2 = c.d → c'.cs = scope → c'.vars = vars → SE c' lbody (ps.map some) ω K (fun code ω' => code.length ≤ 10 ∧ K (.str ("!" ++ code)) ω')) :
    SE c (.Call (.Name "_law_heard" np) [.Lambda params lbody scope lpos] [] pos) ρ ω K X := fun s Q E f hQ hE => by
  obtain ⟨m, FR⟩ := f.fr O
  refine wpAny_Call_ofName (nameX_K FR O.st.X (topRead_of O.st.T) (glob283 c.w) ?_ O.kind hx (by decide))
  let κ : Str → Addr := fun x => (c.cl.lookup x).getD 0
  have hκ : ∀ p ∈ scope.names, p.2 = .free → c.cl.lookup p.1 = some (κ p.1) := fun p hp hf => by
    obtain ⟨k, hk⟩ := Option.isSome_iff_exists.mp (hfree p hp hf)
    show _ = some ((c.cl.lookup p.1).getD 0)
    rw [hk]; rfl
  let free : List Str := ((scope.names.filter (fun p => p.2 == .free)).map (·.1)).reverse
  have hclos : (((scope.names.filter (fun p => p.2 == .free)).map fun p => (p.1, κ p.1)).reverse) = free.map fun x => (x, κ x) := by
    show _ = (((scope.names.filter (fun p => p.2 == .free)).map (·.1)).reverse).map fun x => (x, κ x)
    rw [List.map_reverse, List.map_map]; rfl
  have hmem : ∀ x ∈ free, (x, NameKind.free) ∈ scope.names := fun x hx => by
    have := List.mem_reverse.mp hx
    obtain ⟨p, hp, rfl⟩ := List.mem_map.mp this
    obtain ⟨hp1, hp2⟩ := List.mem_filter.mp hp
    have : p.2 = .free := by simpa using hp2
    rw [← this]; exact hp1
  have hback : ∀ x k, (free.map fun x => (x, κ x)).lookup x = some k → c.cl.lookup x = some k := fun x k e => by
    obtain ⟨e1, rfl⟩ := lookup_mk e
    exact hκ (x, .free) (hmem x e1) rfl
  show wpAny _ _ (callWith pos (.ref 283) [] (backTo pos (starEach [.Lambda params lbody scope lpos] c.env)) []) _ _ _
  have h283 : ∀ {s' : Shared}, c.G.StaysIn s'.heap → s'.heap.get? 283 = some _ := fun st => st _ _ (O.st.X 283 _ rfl)
  refine callWith_function (evalArgs_of rfl (wpAny_items_cons (lam_at O f H (κ := κ) hdef hκ fun fa h₂ tk i₂ k₂ hlam => wpAny_items_nil ⟨⟨h283 i₂.stays, rfl⟩, ?_⟩) (starEach_cons rfl)))
  rw [hclos] at hlam
  have f₂ := f.step i₂ k₂
  refine call_def_at O f₂ (name := "_law_heard") (xs := ["work"]) (ys := ["error"]) (ps := [.adr fa]) (K := K) (X := X) (h283 i₂.stays) rfl (codeRec_of (O.st.X.keeps i₂.stays) (by exact rfl)) (by omega) rfl (fun vs hv => by
      match vs, hv with
      | [a], _ => exact rfl) (by decide +kernel) (vrl_cons.mpr ⟨_, _, rfl, vr_adr.mpr rfl, vrl_nil.mpr rfl⟩) (fun b a ω' s' k i kp r => hQ b a ω' s' k i (k₂.trans kp) r) (fun code ea ω' s' x i kp e => hE code ea ω' s' x i (k₂.trans kp) e) fun c₁ O₁ hst hd₁ hcs₁ hv₁ _ _ hhe hout => ?_
  refine SS_cons (S_catch O₁ (i := 1) (by rw [hcs₁]; rfl) (by rw [hcs₁]; rfl) (by rw [hv₁]; rfl) ?_)
  refine SS_cons (S_ret fun s₁ Q₁ E₁ f₁ hQ₁ hE₁ => ?_)
  -- return work()
  obtain ⟨x', v', ex', y', r'⟩ := f₁.vars 0 (.adr fa) rfl
  rw [hv₁] at ex'; cases ex'
  obtain rfl := vr_adr.mp r'
  refine wpAny_Call_ofName (wpAny_Name (loadVar O₁ y' (by decide) ?_) (by decide))
  have hlam₁ : Lam s₁.heap fa q params lbody scope (free.map fun x => (x, κ x)) := by
    obtain ⟨o, pm, cd, ct, ho, hd, hrec⟩ := hlam
    have kp := f₁.kp
    rw [hhe] at kp
    have ne : ∀ {a o}, h₂.get? a = some o → (∀ vs n, o.data ≠ .seq vs n) → a ≠ c₁.bx := fun e hn => by
      rw [show c₁.bx = c.bx by rw [hst]]; exact i₂.neBx e hn
    refine ⟨o, pm, cd, ct, kp.ex fa o ho (ne ho fun vs n z => by rw [hd] at z; cases z) (.func hd) (fun es n z => by rw [hd] at z; cases z), hd, ?_⟩
    obtain ⟨c', oc, vs, tq, e1, e2, e3, e4⟩ := hrec
    cases e1
    exact ⟨cd, oc, vs, tq, rfl, kp.ex cd oc e2 (ne e2 fun vs n z => by rw [e3] at z; cases z) (fun vs' z => by rw [e3] at z; cases z; exact .inr ⟨_, _, e4⟩) (fun es n z => by rw [e3] at z; cases z), e3, e4⟩
  obtain ⟨oF, pmF, cdF, ctF, hoF, hdF, _⟩ := id hlam₁
  show wpAny _ _ (callWith _ (.ref fa) [] (backTo _ (starEach [] c₁.env)) []) _ _ _
  refine callWith_function (evalArgs_of rfl (wpAny_items_nil ⟨⟨hoF, hdF⟩, ?_⟩))
  have cellK : ∀ {k v}, h₂.IsCell k v → s₁.heap.IsCell k v := fun {k v} ⟨o, ho, hd⟩ => by
    have kp := f₁.kp
    rw [hhe] at kp
    refine ⟨o, kp.ex k o ho ?_ (.cell hd) (fun es n z => by rw [hd] at z; cases z), hd⟩
    rw [show c₁.bx = c.bx by rw [hst]]
    exact i₂.neBx ho fun vs n z => by rw [hd] at z; cases z
  refine lam_call O₁ f₁ (K := K) (X := fun code ω' => code.length ≤ 10 ∧ K (.str ("!" ++ code)) ω') (vars := vars) (ps := ps) hlam₁ (by omega) (hbind _) hsc hnd (fun x k e => ?_) (fun x y k e1 e2 => O.inj x y k (hback x k e1) (hback y k e2)) (fun x k e => ?_) (fun i pv e => ?_) hQ₁ hE₁ fun c₂ O₂ hd₂ hcs₂ hv₂ => h c₂ O₂ (by omega) hcs₂ hv₂
  · obtain ⟨z1, z2, z3, _⟩ := O.cells x k (hback x k e)
    rw [show c₁.G = c.G by rw [hst], show c₁.bx = c.bx by rw [hst]]
    exact ⟨z1, z3⟩
  · obtain ⟨v, hv⟩ := f₂.cel x k (hback x k e)
    exact ⟨v, cellK hv⟩
  · obtain ⟨x, j, e1, e2, e3, e4, e5⟩ := hvars i pv e
    have hxf : x ∈ free := List.mem_reverse.mpr (List.mem_map.mpr ⟨(x, .free), List.mem_filter.mpr ⟨mem_of_lookup_kind e2, rfl⟩, rfl⟩)
    obtain ⟨x', v, e6, y6, r6⟩ := f₂.vars j pv e5
    rw [e3] at e6; cases e6
    rcases y6 with ⟨bad, _⟩ | ⟨_, k, hk, hcell⟩
    · rw [e4] at bad; cases bad
    refine ⟨x, κ x, v, e1, e2, lookup_mk' hxf, ?_, ?_⟩
    · have := hκ (x, .free) (hmem x hxf) rfl
      rw [hk] at this
      exact (Option.some.inj this) ▸ cellK hcell
    · rw [show c₁.bx = c.bx by rw [hst]]
      have kp := f₁.kp
      rw [hhe, show c₁.bx = c.bx by rw [hst]] at kp
      exact r6.mono kp
end
end Mine
end TextMY
section TextMZ
open PySem PySem.W PySem.Calls PyProof.Rows
set_option Elab.async false
set_option linter.unusedVariables false
set_option maxRecDepth 100000
namespace Mine
theorem lookup_isSome_cons {l : List (Str × Addr)} {x y : Str} {a : Addr} (h : (l.lookup x).isSome = true) : (((y, a) :: l).lookup x).isSome = true := by
  rw [List.lookup_cons]
  cases x == y
  · exact h
  · rfl
theorem cellsFrom_some : ∀ (names : List (Str × NameKind)) (n : Nat) (acc : List (Str × Addr)) (x : Str), ((x, NameKind.cell) ∈ names ∨ (acc.lookup x).isSome = true) → ((cellsFrom n names acc).lookup x).isSome = true
  | [], n, acc, x, h => by
    rcases h with h | h
    · cases h
    · exact h
  | (y, k) :: r, n, acc, x, h => by
    unfold cellsFrom
    split
    · refine cellsFrom_some r _ _ x ?_
      rcases h with h | h
      · rcases List.mem_cons.mp h with e | h
        · cases e
          right
          rw [List.lookup_cons]; simp
        · exact .inl h
      · exact .inr (lookup_isSome_cons h)
    · rename_i hk
      refine cellsFrom_some r _ _ x ?_
      rcases h with h | h
      · rcases List.mem_cons.mp h with e | h
        · cases e; exact absurd rfl hk
        · exact .inl h
      · exact .inr h
theorem bindL_get {kind : Str → Option NameKind} : ∀ {xs : List Str} {vs : List Value} {m : Str → Option Value} {i : Nat} {x : Str} {v : Value}, xs.Nodup → xs[i]? = some x → vs[i]? = some v → kind x = some .local → bindL kind (xs.zip vs) m x = some v
  | [], _, _, i, _, _, _, h, _, _ => by simp at h
  | _ :: _, [], _, i, _, _, _, _, h, _ => by simp at h
  | y :: xs, u :: vs, m, i, x, v, hn, hx, hv, hk => by
    rw [List.nodup_cons] at hn
    rw [List.zip_cons_cons]
    unfold bindL
    cases i with
    | zero =>
      simp at hx hv; subst hx hv
      rw [if_pos hk]
      have skip : ∀ (l : List (Str × Value)) (m : Str → Option Value), y ∉ l.map (·.1) → bindL kind l m y = m y := by
        intro l
        induction l with
        | nil => intro m _; rfl
        | cons p l ih =>
          intro m hm
          obtain ⟨z, w⟩ := p
          unfold bindL
          rw [ih _ fun q => hm (.tail _ q)]
          by_cases hz : kind z = some .local
          · rw [if_pos hz]; show (if y = z then _ else m y) = m y; rw [if_neg fun q => hm (by rw [q]; exact .head _)]
          · rw [if_neg hz]
      rw [skip _ _ fun q => hn.1 (zip_map_fst_sub q)]
      show (if y = y then some u else m y) = some u
      rw [if_pos rfl]
    | succ i =>
      simp at hx hv
      exact bindL_get hn.2 hx hv hk
theorem bindC_get {kind : Str → Option NameKind} : ∀ {xs : List Str} {vs : List Value} {m : Str → Option Value} {i : Nat} {x : Str} {v : Value}, xs.Nodup → xs[i]? = some x → vs[i]? = some v → kind x ≠ some .local → bindC kind (xs.zip vs) m x = some v
  | [], _, _, i, _, _, _, h, _, _ => by simp at h
  | _ :: _, [], _, i, _, _, _, _, h, _ => by simp at h
  | y :: xs, u :: vs, m, i, x, v, hn, hx, hv, hk => by
    rw [List.nodup_cons] at hn
    rw [List.zip_cons_cons]
    unfold bindC
    cases i with
    | zero =>
      simp at hx hv; subst hx hv
      rw [if_neg hk]
      have skip : ∀ (l : List (Str × Value)) (m : Str → Option Value), y ∉ l.map (·.1) → bindC kind l m y = m y := by
        intro l
        induction l with
        | nil => intro m _; rfl
        | cons p l ih =>
          intro m hm
          obtain ⟨z, w⟩ := p
          unfold bindC
          rw [ih _ fun q => hm (.tail _ q)]
          by_cases hz : kind z = some .local
          · rw [if_pos hz]
          · rw [if_neg hz]; show (if y = z then _ else m y) = m y; rw [if_neg fun q => hm (by rw [q]; exact .head _)]
      rw [skip _ _ fun q => hn.1 (zip_map_fst_sub q)]
      show (if y = y then some u else m y) = some u
      rw [if_pos rfl]
    | succ i =>
      simp at hx hv
      exact bindC_get hn.2 hx hv hk
noncomputable def cellScopeOk (sc : Scope) (xs ys : List Str) : Bool :=
  sc.kind == .function && !sc.isCoroutine && !sc.isGenerator && (xs.all fun x => sc.names.lookup x == some .local || sc.names.lookup x == some .cell) && decide (xs ++ ys).Nodup
section
variable {c : Cx} {ρ : Store} {ω : Om} {K : PV → Om → Prop} {X : Str → Om → Prop}
theorem CallJ_cells (O : c.Ok) {fa : Addr} {name qual : Str} {params : Arguments} {body : List Stmt} {scope : Scope} {dV kV doc pm cdv ct oc : Value} {an od : Option Addr} {osl : Array (Option Value)} {xs ys : List Str} {ps : List PV}
    (ho : (hd.heap_39 c.w.params).lookup fa = some ⟨oc, od, .func (fnX name qual params body scope [] dV kV doc pm an cdv ct), osl⟩) (hcd : codeIn (hd.heap_39 c.w.params) cdv qual = true)
    (hbind : ∀ vs : List Value, vs.length = xs.length → bindArgs (fnX name qual params body scope [] dV kV doc pm an cdv ct) ⟨vs, []⟩ = pure (xs.zip vs))
    (hsc : cellScopeOk scope xs ys = true) (hdp : 1 ≤ c.d) (hps : ps.length = xs.length)
    (h : ∀ c' : Cx, c'.Ok → c'.toSt = c.toSt → c'.d + 1 = c.d → c'.cs = scope → c'.vars = xs ++ ys → c'.own = true → c'.cn = qual → c'.ccd = cdv → (∀ p ∈ scope.names, p.2 = .cell → (c'.cl.lookup p.1).isSome = true) →
      SS c' (execs body c'.env) (ps.map some ++ ys.map fun _ => none) ω (fun _ ω' => K .non ω') K X) : CallJ c (.adr fa) ps ρ ω K X := fun s Q E fv vs f r rl hQ hE => by
  obtain rfl := vr_adr.mp r
  simp only [cellScopeOk, Bool.and_eq_true, Bool.not_eq_true', beq_iff_eq, decide_eq_true_eq] at hsc
  obtain ⟨⟨⟨⟨hk, hco⟩, hgen⟩, hloc⟩, hnd⟩ := hsc
  rw [List.all_eq_true] at hloc
  have hlen := vrl_len rl
  have hkind : ∀ (n : Nat) (x : Str × Value), x ∈ xs.zip vs → scope.names.lookup x.1 = some .local ∨ (scope.names.lookup x.1 = some .cell ∧ ((cellsFrom n scope.names []).lookup x.1).isSome = true) := fun n x hx => by
    have := hloc x.1 (List.of_mem_zip hx).1
    simp only [Bool.or_eq_true, beq_iff_eq] at this
    rcases this with h | h
    · exact .inl h
    · exact .inr ⟨h, cellsFrom_some _ _ _ _ (.inl (mem_of_lookup_kind h))⟩
  refine wpAny_call (codeAny_call_cells (fd := fnX name qual params body scope [] dV kV doc pm an cdv ct) (body := body) (binds := xs.zip vs) (by have := O.depth; omega) (f.inv.stays _ _ (O.st.X _ _ ho)) rfl (f.inv.noLimit O.st) (codeRec_of (O.st.X.keeps f.inv.stays) hcd) rfl (hbind vs (by omega)) rfl
    (hkind _) (fun s₁ IC => ?_) hco hgen hk)
  have hfr := f.frameLt O
  obtain ⟨h₁, tk, rfl, hk₁⟩ := IC.done
  have hns := IC.toInCall.ns
  have hcell := IC.cell
  have hap := IC.apart
  have hab := IC.above
  have hkeep := IC.toInCall.keep
  let cl := cellsFrom (s.heap.objs.size + 1) scope.names []
  let c' : Cx := { c with A := c.A.deeper (envX qual scope s.heap.objs.size fa cdv cl), d := c.d - 1, cn := qual, cs := scope, L := s.heap.objs.size, a := fa, ccd := cdv, cl := cl, outer := c.env :: c.outer, he := s.heap, vars := xs ++ ys, own := true }
  have hnone : ∀ k, s.heap.objs.size ≤ k → c.G.get? k = none := fun k hk => by
    cases q : c.G.get? k with
    | none => rfl
    | some o => exact absurd (Heap.lt_size (f.inv.stays _ _ q)) (Nat.not_lt.mpr hk)
  have habove : ∀ x k, cl.lookup x = some k → s.heap.objs.size < k := fun x k e => hab x k (mem_of_lookup e)
  have O' : c'.Ok := {
    st := O.st
    hand := O.hand
    frames := by show (c.A.frames.map _) = _; rw [O.frames]; rfl
    guards := O.guards
    depth := by show c.A.depth + 1 + (c.d - 1) < _; have := O.depth; omega
    units := by show c.A.units + 3 + 20 * (c.d - 1) < _; have := O.units; omega
    kind := hk
    above := Nat.le_trans O.above (Nat.le_of_lt f.Lsize)
    heL := Heap.get?_none_of_le (Nat.le_refl _)
    cells := fun x k e => ⟨hnone k (Nat.le_of_lt (habove x k e)), Nat.ne_of_gt (habove x k e), fun z => absurd f.inv.bxlt (by rw [← z]; exact Nat.not_lt.mpr (Nat.le_of_lt (habove x k e))), fun _ => Heap.get?_none_of_le (Nat.le_of_lt (habove x k e))⟩
    inj := fun x y k e1 e2 => name_of_addr hap (mem_of_lookup e1) (mem_of_lookup e2)
    outL := fun e he q => absurd (hfr e he _ q) (Nat.lt_irrefl _)
    nodup := hnd }
  have F' : FrI c' (ps.map some ++ ys.map fun _ => none) ω { s with heap := h₁, toks := tk } := {
    inv := f.inv.ext hk₁
    ff := (f.ffAll O).step f.inv (.of_keeps hk₁)
    kp := .of_keeps hk₁
    ns := ⟨_, hns⟩
    cel := fun x k e => ⟨_, hcell x k e⟩
    vars := fun i pv e => by
      have hi : i < ps.length := by
        by_cases q : i < ps.length
        · exact q
        · unfold Store.get at e
          rw [List.getElem?_append_right (by simpa using Nat.le_of_not_lt q)] at e
          split at e
          · rename_i o ho
            rw [List.getElem?_map] at ho
            cases hy : ys[i - (ps.map some).length]? <;> rw [hy] at ho <;> simp at ho
            subst ho; cases e
          · cases e
      have hp : ps[i]? = some pv := by
        unfold Store.get at e
        rw [List.getElem?_append_left (by simpa using hi), List.getElem?_map, List.getElem?_eq_getElem hi] at e
        rw [List.getElem?_eq_getElem hi]
        exact e
      obtain ⟨v, hv, rv⟩ := vrl_get rl hp
      have hx : i < xs.length := by omega
      have hxi : xs[i]? = some xs[i] := List.getElem?_eq_getElem hx
      have hndx := (List.nodup_append.mp hnd).1
      refine ⟨xs[i], v, by show (xs ++ ys)[i]? = _; rw [List.getElem?_append_left hx, hxi], ?_, rv.mono (.of_keeps hk₁)⟩
      have hl := hloc xs[i] (List.getElem_mem hx)
      simp only [Bool.or_eq_true, beq_iff_eq] at hl
      rcases hl with hl | hl
      · exact .inl ⟨hl, _, hns, bindL_get hndx hxi hv hl⟩
      · obtain ⟨k, hk2⟩ := Option.isSome_iff_exists.mp (cellsFrom_some scope.names (s.heap.objs.size + 1) [] xs[i] (.inl (mem_of_lookup_kind hl)))
        refine .inr ⟨.inl hl, k, hk2, ?_⟩
        have hc2 := hcell xs[i] k hk2
        rw [bindC_get (kind := (callEnvC (fnX name qual params body scope [] dV kV doc pm an cdv ct) s.heap.objs.size fa).kindOf) hndx hxi hv (fun z => by rw [show (callEnvC (fnX name qual params body scope [] dV kV doc pm an cdv ct) s.heap.objs.size fa).kindOf xs[i] = scope.names.lookup xs[i] from rfl, hl] at z; cases z)] at hc2
        exact hc2 }
  refine h c' O' rfl (by show c.d - 1 + 1 = c.d; omega) rfl rfl rfl rfl rfl (fun p hp hpc => cellsFrom_some _ _ _ _ (.inl (by rw [← hpc]; exact hp))) _ _ _ F' (fun ρ' ω' s' n f' k => ?_) (fun pv v ω' s' r f' rv => ?_) fun code ea ω' s' x f' xe => ?_
  · exact hQ _ _ ω' s' n f'.inv f'.kp (by unfold Vr; rfl)
  · exact hQ _ _ ω' s' r f'.inv f'.kp rv
  · exact leaves_exc (c := c.toSt) O'.frames (f'.ffAll O') rfl f'.inv xe fun h' i' k' x' => hE code ea ω' _ x i' (f'.kp.trans k') x'
end
end Mine
end TextMZ
section TextNA
open PySem PySem.W PySem.Calls PyProof.Rows
set_option Elab.async false
set_option linter.unusedVariables false
set_option maxRecDepth 100000
namespace Mine
theorem no_range (w : World) : nsIn (KF w) mainGlobals "range" = some none := by kernel_rfl
section
variable {c : Cx} {ρ : Store} {ω : Om} {K : PV → Om → Prop} {X : Str → Om → Prop} {N : Store → Om → Prop} {R : PV → Om → Prop}
theorem rangeRec {x l st : Int} : Rec { cls := .type "range_iterator", dict := none, data := .fields #[rawInt x, rawInt l, rawInt st], slots := #[] } :=
  ⟨_, rfl, by simp, by simp, by simp, fun q t z => by simp [rawInt] at z⟩
theorem S_forR (O : c.Ok) {i : Nat} {x : Str} {px pos rp cp : Pos} {e : Expr} {body : List Stmt} (hx : c.vars[i]? = some x) (hk : StoreOk c x) (hr : c.cs.names.lookup ("range" : Str) = some .globalImplicit) (hns : notStar e = true) (I : Nat → Store → Om → Prop)
    (h : SE c e ρ ω (fun v ω1 => ∃ n : Nat, v = .int n ∧ n < 2 ^ 40 ∧ I 0 ρ ω1 ∧ (∀ k, k < n → ∀ ρ' ω', I k ρ' ω' → i < ρ'.length ∧ SS c (execs body c.env) (ρ'.set i (some (.int k))) ω' (I (k + 1)) R XF) ∧ (∀ ρ' ω', I n ρ' ω' → N ρ' ω')) X) :
    SS c (exec (.For (.Name x px) (.Call (.Name "range" rp) [e] [] cp) body [] pos) c.env) ρ ω N R X := fun s Q E f hN hR hE => by
  obtain ⟨m, FR⟩ := f.fr O
  refine wpAny_For (wpAny_Call_ofName (nameX_B FR O.st.X (topRead_of O.st.T) (no_range c.w) (by kernel_rfl : bootBuiltins "range" = some (.type "range")) (by decide) ?_ O.kind hr (by decide))) (fun _ => rfl)
  show wpAny _ _ (callWith cp (.type "range") [] (backTo cp (starEach [e] c.env)) []) _ _ _
  refine PyProof.Rows.callWith_type (starEach_any (by rw [List.all_cons, hns]; rfl)) (evalArgs_of (by rw [List.all_cons, hns]; rfl) (wpAny_items_cons (h s _ _ f (fun pv v ω1 s1 hp i1 k1 r1 => wpAny_items_nil ?_) fun code ea ω' s' x i k e => hE code ea ω' s' x (f.step i k).weak e) (starEach_cons hns)))
  obtain ⟨n, rfl, hn, h0, turn, hend⟩ := hp
  obtain ⟨t, rfl⟩ := vr_int.mp r1
  have f1 := f.step i1 k1
  refine call_range_1 ?_
  have pk1 : ∀ b o, s1.heap.get? b = some o → (s1.heap.push { cls := .type "range", data := .fields #[.int 0 s1.toks, .int n t, .int 1 (s1.toks + 1)] }).get? b = some o := push_keeps
  have hsmall : Builtin.Range.small 0 (n : Int) 1 = true := small_one (by decide) (by decide) (by omega) (by omega)
  have hsz : Builtin.Range.rangeSize 0 (n : Int) 1 = n := by rw [rangeSize_one]; split <;> omega
  refine wpAny_pyIter_range (IsRange.new ..) hsmall ?_
  rw [hsz]
  generalize hh2 : s1.heap.push { cls := .type "range", data := .fields #[.int 0 s1.toks, .int n t, .int 1 (s1.toks + 1)] } = h2 at pk1
  have f2 : FrI c ρ ω1 { s1 with heap := h2, toks := s1.toks + 1 + 1 } := f1.ext pk1
  have ow : Own c h2.objs.size := f2.fresh
  have pk2 : ∀ b o, h2.get? b = some o → (h2.push { cls := .type "range_iterator", data := .fields #[rawInt 0, rawInt n, rawInt 1] }).get? b = some o := push_keeps
  have hnoIt : s1.heap.get? h2.objs.size = none := by
    cases q : s1.heap.get? h2.objs.size with
    | none => rfl
    | some o => exact absurd (Heap.lt_size (pk1 _ _ q)) (Nat.lt_irrefl _)
  refine codeAny_forLoop (fun k s' => ∃ (j : Nat) (ρ' : Store) (ω' : Om), k = n - j ∧ j ≤ n ∧ FrI c ρ' ω' s' ∧ IsRangeIter s'.heap h2.objs.size j ((n : Int) - j) 1 ∧ Kn c.bx s1.heap s'.heap ∧ I j ρ' ω') ?_ n
    ⟨0, ρ, ω1, by simp, Nat.zero_le _, f2.ext (tk := s1.toks + 1 + 1) pk2, by simpa using Heap.get?_push_size h2 rfl, (Kp.of_keeps fun b o e => pk2 b o (pk1 b o e)).kn, h0⟩
  rintro k s' ⟨j, ρ', ω', rfl, hj, f', hit, kn', hI⟩
  by_cases hlt : j < n
  · obtain ⟨hi, hbody⟩ := turn j hlt ρ' ω' hI
    refine wpAny_pyNext_range_item hit (by omega) fun h₁ hit₁ hs₁ => ?_
    have f₁ : FrI c ρ' ω' { s' with heap := h₁, toks := s'.toks + 1 } := f'.turn (tk := s'.toks + 1) ow hit rangeRec hs₁.extBut
    have kn₁ : Kn c.bx s1.heap h₁ := kn'.but hs₁.extBut hnoIt
    refine wpAny_assign_Name (f₁.store O hx hi hk vr_int' fun s₂ f₂ kn₂ => ?_)
    have hit₂ := kn₂.rec hit₁ (Rec.ne (bx := c.bx) rangeRec f₁.inv hit₁) rangeRec
    refine hbody s₂ _ _ f₂ (fun ρ₃ ω₃ s₃ hn₃ f₃ kn₃ => ?_) (fun pv v ω₃ s₃ hr f₃ rv => hR pv v ω₃ s₃ hr f₃ rv) fun _ _ _ _ z => z.elim
    refine ⟨n - (j + 1), by omega, j + 1, ρ₃, ω₃, rfl, hlt, f₃, ?_, (kn₁.trans kn₂).trans kn₃, hn₃⟩
    have := kn₃.rec hit₂ (Rec.ne (bx := c.bx) rangeRec f₂.inv hit₂) rangeRec
    rw [show (n : Int) - (j : Int) - 1 = (n : Int) - ((j + 1 : Nat) : Int) by omega] at this
    exact this
  · have hjn : j = n := by omega
    subst hjn
    refine wpAny_pyNext_range_end O.hand hit (by omega) fun h₁ he₁ => wpAny_execs_nil ?_
    exact hN _ _ { s' with heap := h₁ } (hend _ _ hI) (f'.turn (tk := s'.toks) ow hit rangeRec he₁) (k1.kn.trans (kn'.but he₁ hnoIt))
end
end Mine
end TextNA
section TextNB
open PySem PySem.W PySem.Calls PyProof.Rows
set_option Elab.async false
set_option linter.unusedVariables false
set_option maxRecDepth 100000
namespace Mine
theorem pick24 (items : Array Value) : slicePick items none (some 24) none = (items.toList.take 24).toArray := by
  unfold slicePick
  have e : sliceBounds none (some 24) none items.size = (0, ((min 24 items.size : Nat) : Int), 1) := by
    unfold sliceBounds
    simp
    omega
  rw [e]
  show ((sliceRange ((0 : Nat) : Int) ((min 24 items.size : Nat) : Int) 1).filterMap (items[·]?)).toArray = _
  rw [sliceRange_one]
  have := pick_run items 0 (min 24 items.size)
  simp only [Nat.sub_zero]
  rw [this, List.drop_zero]
  congr 1
  rw [List.take_eq_take_iff]
  simp
section
variable {c : Cx} {ρ : Store} {ω : Om} {K : PV → Om → Prop} {X : Str → Om → Prop} {N : Store → Om → Prop} {R : PV → Om → Prop}
theorem SE_cut (O : c.Ok) {x : Str} {np p1 p2 p3 p4 p5 p6 p7 : Pos} {k k' : Nat}
    (h : SE c (.Name x np) ρ ω (fun v ω1 => ∃ ps, v = .lst ps ∧ ps.length ≤ 2 ^ 20 ∧ K (.lst (ps.take 24).reverse) ω1) X) :
    SE c (.Subscript (.Subscript (.Name x np) (.Slice none (some (.Constant (.int 24) k p1)) none p2) p3) (.Slice none none (some (.UnaryOp .USub (.Constant (.int 1) k' p4) p5)) p6) p7) ρ ω K X := fun s Q E f hQ hE => by
  refine Subscript_ (Subscript_ (h s _ _ f (fun pv v ω1 s1 hp i1 k1 r1 => ?_) hE))
  obtain ⟨ps, rfl, hlen, hK⟩ := hp
  obtain ⟨t, ot, vs, n, rfl, htb, hot, hct, hdt, hl⟩ := vr_lst.mp r1
  have hsz : vs.size ≤ sizeLine := by
    have := vrl_len hl
    rw [sizeLine_eq]; simp at this; omega
  have L1 : s1.heap.IsList t vs := ⟨ot, hot, hct, n, hdt⟩
  have tyL : ∀ {h : Heap} {a : Addr} {its : Array Value} {g dd tk os}, h.IsList a its → (⟨h, g, dd, tk, os⟩ : Shared).TypeIs (.ref a) "list" := fun ⟨o, ho, hc, _⟩ => ⟨o, ho, hc⟩
  refine wpAny_Slice (wpAny_pure (wpAny_Constant_int (k := k) (pos := p1) (wpAny_pure ?_)))
  refine subscriptTail_ops (T := "list") (tyL (L1.push _)) list_getitem_lookup (wpAny_getItem_list_slice (L1.push _) (Heap.IsSliceOf.new ..) .none (.int 24 _) .none (by simp) ?_ hsz) (by with_unfolding_all rfl) (fun _ => rfl)
  rw [pick24]
  dsimp only
  have kk1 : ∀ b o, s1.heap.get? b = some o → (s1.heap.push { cls := .type "slice", data := .fields #[Value.none, .int 24 s1.toks, .none] }).get? b = some o := push_keeps
  generalize hh : s1.heap.push { cls := .type "slice", data := .fields #[Value.none, .int 24 s1.toks, .none] } = h2 at kk1 ⊢
  have kk2 : ∀ b o, h2.get? b = some o → (h2.push { cls := .type "list", data := .seq (vs.toList.take 24).toArray }).get? b = some o := push_keeps
  have L2 : (h2.push { cls := .type "list", data := .seq (vs.toList.take 24).toArray }).IsList h2.objs.size (vs.toList.take 24).toArray := ⟨_, Heap.get?_push_size _ rfl, rfl, _, rfl⟩
  have e2 : (h2.push { cls := .type "list", data := .seq (vs.toList.take 24).toArray }).get? h2.objs.size = some { cls := .type "list", data := .seq (vs.toList.take 24).toArray } := Heap.get?_push_size _ rfl
  generalize h2.push { cls := .type "list", data := .seq (vs.toList.take 24).toArray } = h3 at kk2 L2 e2 ⊢
  refine wpAny_Slice (wpAny_pure (wpAny_pure (wpAny_UnaryOp (pos := p5) (wpAny_Constant_int (k := k') (pos := p4) (PyProof.Rows.neg_int ?_)))))
  refine kba_turn (value' := .Name (Str.ofString "_") ⟨0, 0, 0, 0⟩) (fun _ => rfl) ?_
  refine subscriptTail_ops (T := "list") (tyL (L2.push _)) list_getitem_lookup (wpAny_getItem_list_slice (L2.push _) (Heap.IsSliceOf.new ..) .none .none (.int (-1) _) (by simp) ?_ (by rw [sizeLine_eq]; simp; omega)) (by with_unfolding_all rfl) (fun _ => rfl)
  rw [krv_pick]
  dsimp only
  refine hQ _ _ ω1 _ hK (i1.ext fun b o e => push_keeps _ _ (push_keeps _ _ (kk2 _ _ (kk1 _ _ e)))) (k1.trans (.of_keeps fun b o e => push_keeps _ _ (push_keeps _ _ (kk2 _ _ (kk1 _ _ e))))) ?_
  refine vr_lst.mpr ⟨_, _, _, _, rfl, Nat.ne_of_gt ?_, Heap.get?_push_size _ rfl, rfl, rfl, ?_⟩
  · rw [Heap.size_push]
    have := (i1.ext (tk := s1.toks) fun b o e => kk2 _ _ (kk1 _ _ e)).bxlt
    exact Nat.lt_succ_of_lt this
  · have hl' : VrL c.bx s1.heap (ps.take 24) (vs.toList.take 24) := by
      have : ∀ (n : Nat) {ps : List PV} {us : List Value}, VrL c.bx s1.heap ps us → VrL c.bx s1.heap (ps.take n) (us.take n) := by
        intro n
        induction n with
        | zero => intro ps us r; simp; exact vrl_nil.mpr rfl
        | succ n ih =>
          intro ps us r
          cases ps with
          | nil => rw [vrl_nil.mp r]; simp; exact vrl_nil.mpr rfl
          | cons p ps =>
            obtain ⟨v, tl, rfl, a1, a2⟩ := vrl_cons.mp r
            simp only [List.take_succ_cons]
            exact vrl_cons.mpr ⟨v, _, rfl, a1, ih a2⟩
      exact this 24 hl
    simp only [List.toList_toArray]
    exact vrl_reverse (hl'.mono (.of_keeps fun b o e => push_keeps _ _ (push_keeps _ _ (kk2 _ _ (kk1 _ _ e)))))
end
end Mine
end TextNB
section TextNC
open PySem PySem.W PySem.Calls PyProof.Rows
set_option Elab.async false
set_option linter.unusedVariables false
set_option maxRecDepth 100000
namespace Mine
mutual
noncomputable def dat : PV → Option PyData
  | .non => some .none
  | .bool b => some (.bool b)
  | .int i => some (.int i)
  | .str x => some (.str x)
  | .tup xs => (dats xs).map .tuple
  | .lst xs => (dats xs).map .list
  | _ => none
noncomputable def dats : List PV → Option (List PyData)
  | [] => some []
  | x :: xs => (dat x).bind fun d => (dats xs).map (d :: ·)
end
mutual
theorem dat_reads {bx : Addr} {h : Heap} : ∀ {p : PV} {v : Value} {d : PyData}, Vr bx h p v → dat p = some d → ∃ as, Reads h v d as
  | .non, v, d, r, e => by unfold Vr at r; unfold dat at e; subst r; cases e; exact ⟨_, .none⟩
  | .bool b, v, d, r, e => by unfold Vr at r; unfold dat at e; subst r; cases e; exact ⟨_, .bool b⟩
  | .int b, v, d, r, e => by unfold Vr at r; unfold dat at e; obtain ⟨t, rfl⟩ := r; cases e; exact ⟨_, .int b t⟩
  | .str b, v, d, r, e => by unfold Vr at r; unfold dat at e; obtain ⟨t, rfl⟩ := r; cases e; exact ⟨_, .str b t⟩
  | .tup xs, v, d, r, e => by
    unfold dat at e
    obtain ⟨a, o, vs, n, rfl, hb, ho, hc, hd, hl⟩ := vr_tup.mp r
    cases hx : dats xs with
    | none => rw [hx] at e; cases e
    | some ds =>
      rw [hx] at e; cases e
      obtain ⟨as, ha⟩ := dats_reads hl hx
      exact ⟨_, .tuple ho hc hd ha⟩
  | .lst xs, v, d, r, e => by
    unfold dat at e
    obtain ⟨a, o, vs, n, rfl, hb, ho, hc, hd, hl⟩ := vr_lst.mp r
    cases hx : dats xs with
    | none => rw [hx] at e; cases e
    | some ds =>
      rw [hx] at e; cases e
      obtain ⟨as, ha⟩ := dats_reads hl hx
      exact ⟨_, .list ho hc hd ha⟩
  | .box, v, d, r, e => by unfold dat at e; cases e
  | .adr _, v, d, r, e => by unfold dat at e; cases e
  | .bi _, v, d, r, e => by unfold dat at e; cases e
  | .ty _, v, d, r, e => by unfold dat at e; cases e
theorem dats_reads {bx : Addr} {h : Heap} : ∀ {ps : List PV} {vs : List Value} {ds : List PyData}, VrL bx h ps vs → dats ps = some ds → ∃ as, ReadsAll h vs ds as
  | [], vs, ds, r, e => by unfold dats at e; cases e; rw [vrl_nil.mp r]; exact ⟨_, .nil⟩
  | p :: ps, vs, ds, r, e => by
    unfold dats at e
    obtain ⟨v, t, rfl, r1, r2⟩ := vrl_cons.mp r
    cases hp : dat p with
    | none => rw [hp] at e; cases e
    | some d =>
      rw [hp] at e
      cases hps : dats ps with
      | none => rw [hps] at e; cases e
      | some ds' =>
        rw [hps] at e; cases e
        obtain ⟨as, ha⟩ := dat_reads r1 hp
        obtain ⟨bs, hb⟩ := dats_reads r2 hps
        exact ⟨_, .cons ha hb⟩
end
noncomputable def dcmp : CmpOp → PyData → PyData → Option Bool
  | .Eq, a, b => if a.depth ≤ 6 then some (PyData.eqv a b) else none
  | .NotEq, a, b => if a.depth ≤ 6 then some (!PyData.eqv a b) else none
  | .In, a, .tuple xs => if a.depth ≤ 6 then some (xs.any fun y => PyData.eqv y a) else none
  | _, _, _ => none
section
variable {c : Cx} {ρ : Store} {ω : Om} {K : PV → Om → Prop} {KB : Bool → Om → Prop} {X : Str → Om → Prop} {N : Store → Om → Prop} {R : PV → Om → Prop}
theorem dcmp_sound (O : c.Ok) (hdp : 1 ≤ c.d) {s : Shared} {Q E : Value → Shared → Prop} {op : CmpOp} {a b : PV} {v u : Value} {da db : PyData} {t : Bool} (ha : dat a = some da) (hb : dat b = some db) (h1 : da.canLay0 = true) (h2 : db.canLay0 = true)
    (hc : dcmp op da db = some t) (ra : Vr c.bx s.heap a v) (rb : Vr c.bx s.heap b u) (hQ : Q (.bool t) s) : wpAny (model PRG c.w) c.A (compareOp op v u) Q E s := by
  obtain ⟨as, rda⟩ := dat_reads ra ha
  obtain ⟨bs, rdb⟩ := dat_reads rb hb
  have hu := O.units
  unfold dcmp at hc
  split at hc
  · split at hc
    · cases hc; exact PySem.SeqAt.compareEq_reads rda rdb h1 h2 (Nat.lt_of_le_of_lt (Nat.add_le_add_left (Nat.min_le_left _ _) _) (by omega)) hQ
    · cases hc
  · split at hc
    · cases hc; exact PySem.SeqAt.compareNe_reads rda rdb h1 h2 (Nat.lt_of_le_of_lt (Nat.add_le_add_left (Nat.min_le_left _ _) _) (by omega)) hQ
    · cases hc
  · split at hc
    · cases hc
      exact PySem.SeqAt.in_tuple_reads rdb rda (by unfold PyData.canLay0 at h2; exact h2) h1 (Nat.lt_of_le_of_lt (Nat.add_le_add_left (Nat.min_le_right _ _) _) (by omega)) hQ
    · cases hc
  · cases hc
/-- what a comparison of data asks -/
noncomputable def DCmp (op : CmpOp) (a b : PV) (K : Bool → Prop) : Prop := ∃ da db t, dat a = some da ∧ dat b = some db ∧ da.canLay0 = true ∧ db.canLay0 = true ∧ dcmp op da db = some t ∧ K t
theorem SE_cmpD (O : c.Ok) (hdp : 1 ≤ c.d) {l r : Expr} {op : CmpOp} {pos : Pos} (hm : behindInMarks op r = false) (h : SE c l ρ ω (fun a ω1 => SE c r ρ ω1 (fun b ω2 => DCmp op a b fun t => K (.bool t) ω2) X) X) :
    SE c (.Compare l [op] [r] pos) ρ ω K X := fun s Q E f hQ hE =>
  wpAny_Compare1 (h s _ _ f (fun _ _ ω1 s1 hK i1 k1 r1 => hK s1 _ _ (f.step i1 k1) (fun _ _ ω2 s2 ⟨da, db, t, e1, e2, e3, e4, e5, ht⟩ i2 k2 r2 =>
    dcmp_sound O hdp e1 e2 e3 e4 e5 (r1.mono k2) r2 (hQ _ _ ω2 _ ht i2 (k1.trans k2) vr_bool'))
    fun code ea ω' s' x i k e => hE code ea ω' s' x i (k1.trans k) e) hE) hm
theorem ST_cmpD (O : c.Ok) (hdp : 1 ≤ c.d) {l r : Expr} {op : CmpOp} {pos : Pos} {wh : Sem Value} (hm : behindInMarks op r = false) (h : SE c l ρ ω (fun a ω1 => SE c r ρ ω1 (fun b ω2 => DCmp op a b fun t => KB t ω2) X) X) :
    ST c (isTrue (.Compare l [op] [r] pos) c.env wh) ρ ω KB X := fun s Q E f hQ hE =>
  wpAny_isTrue_Compare1 (h s _ _ f (fun _ _ ω1 s1 hK i1 k1 r1 => hK s1 _ _ (f.step i1 k1) (fun _ _ ω2 s2 ⟨da, db, t, e1, e2, e3, e4, e5, ht⟩ i2 k2 r2 =>
    dcmp_sound O hdp e1 e2 e3 e4 e5 (r1.mono k2) r2 (wpAny_truthy_bool (hQ t t ω2 _ ht i2 (k1.trans k2) rfl)))
    fun code ea ω' s' x i k e => hE code ea ω' s' x i (k1.trans k) e) hE) hm
end
end Mine
end TextNC
section TextND
open PySem PySem.W PySem.Calls PyProof.Rows
set_option Elab.async false
set_option linter.unusedVariables false
set_option maxRecDepth 100000
namespace Mine
/-- an int's expression that only makes: all that stood stands as it stood -/
noncomputable def SX (c : Cx) (t : Sem Value) (ρ : Store) (ω : Om) (i : Int) : Prop :=
  ∀ s (Q E : Value → Shared → Prop), FrI c ρ ω s → (∀ t h' tk, (∀ b o, s.heap.get? b = some o → h'.get? b = some o) → Q (.int i t) { s with heap := h', toks := tk }) → wpAny (model PRG c.w) c.A t Q E s
theorem no_max (w : World) : nsIn (KF w) mainGlobals "max" = some none := by kernel_rfl
theorem no_int (w : World) : nsIn (KF w) mainGlobals "int" = some none := by kernel_rfl
section
variable {c : Cx} {ρ : Store} {ω : Om} {K : PV → Om → Prop} {X : Str → Om → Prop}
theorem SX_const {i : Int} {k : Nat} {pos : Pos} : SX c (eval (.Constant (.int i) k pos) c.env) ρ ω i := fun s Q E f hQ => wpAny_Constant_int (hQ _ s.heap _ fun _ _ e => e)
theorem SX_var (O : c.Ok) {x : Str} {pos : Pos} {j : Nat} {i : Int} (hx : c.vars[j]? = some x) (hn : plainName x = true) (hg : ρ.get j = some (.int i)) : SX c (eval (.Name x pos) c.env) ρ ω i := fun s Q E f hQ => by
  obtain ⟨x', v, e, y, r⟩ := f.vars j _ hg
  rw [hx] at e; cases e
  obtain ⟨t, rfl⟩ := vr_int.mp r
  have hn' := hn
  simp only [plainName, Bool.and_eq_true, Bool.not_eq_true'] at hn'
  exact wpAny_Name (loadVar O y hn (hQ t s.heap s.toks fun _ _ e => e)) hn'.1.1
theorem SX_bin {l r : Expr} {op : Operator} {pos : Pos} {a b i : Int} (h1 : SX c (eval l c.env) ρ ω a) (h2 : SX c (eval r c.env) ρ ω b) (hb : Bop op (.int a) (.int b) (· = .int i)) : SX c (eval (.BinOp l op r pos) c.env) ρ ω i := fun s Q E f hQ => by
  refine wpAny_BinOp (h1 s _ _ f fun t h' tk k => h2 _ _ _ (f.ext k) fun t' h'' tk' k' => Bop_sound (c := c) hb vr_int' vr_int' fun pv w tk2 e hv => ?_)
  subst e
  obtain ⟨t2, rfl⟩ := vr_int.mp (hv h'')
  exact hQ t2 h'' tk2 fun b o e => k' b o (k b o e)
theorem SX_max (O : c.Ok) {x y : Expr} {np pos : Pos} {a b : Int} (hx : notStar x = true) (hy : notStar y = true) (hm : c.cs.names.lookup ("max" : Str) = some .globalImplicit) (h1 : SX c (eval x c.env) ρ ω a) (h2 : SX c (eval y c.env) ρ ω b) :
    SX c (eval (.Call (.Name "max" np) [x, y] [] pos) c.env) ρ ω (if b > a then b else a) := fun s Q E f hQ => by
  obtain ⟨m, FR⟩ := f.fr O
  refine wpAny_Call_ofName (nameX_B FR O.st.X (topRead_of O.st.T) (no_max c.w) (by kernel_rfl : bootBuiltins "max" = some (.builtin "max")) (by decide) ?_ O.kind hm (by decide))
  show wpAny _ _ (callWith pos (.builtin "max") [] (backTo pos (starEach [x, y] c.env)) []) _ _ _
  refine callWith_builtin (starEach_any (by rw [List.all_cons, List.all_cons, hx, hy]; rfl)) (evalArgs_of (by rw [List.all_cons, List.all_cons, hx, hy]; rfl) (wpAny_items_cons (h1 s _ _ f fun t h' tk k => wpAny_items_cons (h2 _ _ _ (f.ext k) fun t' h'' tk' k' => wpAny_items_nil ?_) (starEach_cons hy)) (starEach_cons hx)))
  refine max_two_ints O.hand fun h3 tk3 k3 => ?_
  by_cases q : b > a
  · rw [if_pos q] at hQ ⊢; exact hQ _ h3 tk3 fun b o e => k3 b o (k' b o (k b o e))
  · rw [if_neg q] at hQ ⊢; exact hQ _ h3 tk3 fun b o e => k3 b o (k' b o (k b o e))
theorem SX_intEq (O : c.Ok) {x y : Expr} {np cp pos : Pos} {a b : Int} (hy : behindInMarks .Eq y = false) (hm : c.cs.names.lookup ("int" : Str) = some .globalImplicit) (h1 : SX c (eval x c.env) ρ ω a) (h2 : SX c (eval y c.env) ρ ω b) :
    SX c (eval (.Call (.Name "int" np) [.Compare x [.Eq] [y] cp] [] pos) c.env) ρ ω (if decide (a = b) = true then 1 else 0) := fun s Q E f hQ => by
  obtain ⟨m, FR⟩ := f.fr O
  refine wpAny_Call_ofName (nameX_B FR O.st.X (topRead_of O.st.T) (no_int c.w) (by kernel_rfl : bootBuiltins "int" = some (.type "int")) (by decide) ?_ O.kind hm (by decide))
  show wpAny _ _ (callWith pos (.type "int") [] (backTo pos (starEach [.Compare x [.Eq] [y] cp] c.env)) []) _ _ _
  refine PyProof.Rows.callWith_type (starEach_any rfl) (evalArgs_of rfl (wpAny_items_cons (wpAny_Compare1 (h1 s _ _ f fun t h' tk k => h2 _ _ _ (f.ext k) fun t' h'' tk' k' => ?_) hy) (starEach_cons rfl)))
  refine PyProof.Rows.eq_int (wpAny_items_nil ?_)
  exact call_int_bool (hQ _ h'' _ fun b o e => k' b o (k b o e))
/-- the values of a display -/
noncomputable def SXs (c : Cx) (ρ : Store) (ω : Om) : List (Str × Expr) → List Int → Prop
  | [], [] => True
  | (_, e) :: es, i :: is => SX c (eval e c.env) ρ ω i ∧ SXs c ρ ω es is
  | _, _ => False
noncomputable def pairsOf (env : Env) (dp : Pos) (l : List (Str × Expr)) (kp : Str → Nat × Pos) : List (Sem Value × Sem Value) := l.map fun p => (eval (.Constant (.str p.1) (kp p.1).1 (kp p.1).2) env, (do let v ← eval p.2 env; standAt dp; pure v))
/-- what the pairs of a display stand for, by the values' marks -/
noncomputable def mkU : List (Str × Expr) → List Int → (Nat → Nat) → List (Str × Value)
  | [], _, _ => []
  | p :: l, is, t => (match is with
    | [] => []
    | i :: is => (p.1, .int i (t 0)) :: mkU l is (fun n => t (n + 1)))
theorem SXs_eval {dp : Pos} {kp : Str → Nat × Pos} : ∀ {l : List (Str × Expr)} {is : List Int}, SXs c ρ ω l is → ∀ s (Q : List (Value × Value) → Shared → Prop) (E : Value → Shared → Prop), FrI c ρ ω s →
    (∀ vs t h' tk, Carries (strKind PRG c.w) vs (mkU l is t) → (∀ b o, s.heap.get? b = some o → h'.get? b = some o) → Q vs { s with heap := h', toks := tk }) →
    wpAny (model PRG c.w) c.A (evalPairs (pairsOf c.env dp l kp)) Q E s := by
  intro l
  induction l with
  | nil => intro is _ s Q E f hQ; exact evalPairs_nil (hQ [] (fun _ => 0) s.heap s.toks trivial fun _ _ e => e)
  | cons p l ih =>
    intro is h s Q E f hQ
    cases is with
    | nil => exact (h : False).elim
    | cons i is =>
      refine evalPairs_cons (wpAny_Constant_str ?_)
      have f0 : FrI c ρ ω { s with toks := s.toks + 1 } := f.tok
      refine wpAny_bind (And.left h _ _ _ f0 fun t h' tk k => wpAny_bind (wpAny_standAt (wpAny_pure ?_)))
      refine ih (And.right h) _ _ _ (f0.ext k) fun vs ts h'' tk' hc k' => ?_
      exact hQ _ (fun n => Nat.casesOn n t ts) h'' tk' ⟨strKind_is _ _ _ _, rfl, hc⟩ fun b o e => k' b o (k b o e)
noncomputable def lst5 (i1 i2 i3 i4 i5 : Int) (t : Nat → Nat) : List (Str × Value) := [("AND", .int i1 (t 0)), ("OR", .int i2 (t 1)), ("XOR", .int i3 (t 2)), ("EQV", .int i4 (t 3)), ("IMP", .int i5 (t 4))]
theorem lst5_merged {i1 i2 i3 i4 i5 : Int} {t : Nat → Nat} : merged [] (lst5 i1 i2 i3 i4 i5 t) = lst5 i1 i2 i3 i4 i5 t := by exact rfl
theorem lst5_at {i1 i2 i3 i4 i5 r : Int} {t : Nat → Nat} {o : Str} (ho : (o = "AND" ∧ r = i1) ∨ (o = "OR" ∧ r = i2) ∨ (o = "XOR" ∧ r = i3) ∨ (o = "EQV" ∧ r = i4) ∨ (o = "IMP" ∧ r = i5)) : ∃ tr, valueAt (lst5 i1 i2 i3 i4 i5 t) o = some (.int r tr) := by
  rcases ho with ⟨rfl, rfl⟩ | ⟨rfl, rfl⟩ | ⟨rfl, rfl⟩ | ⟨rfl, rfl⟩ | ⟨rfl, rfl⟩ <;> exact ⟨_, rfl⟩
/-- an item of a display of five ints under written texts -/
theorem SE_pick5 (O : c.Ok) {x : Str} {np dp pos p1 p2 p3 p4 p5 : Pos} {e1 e2 e3 e4 e5 : Expr} {i1 i2 i3 i4 i5 : Int} {j : Nat} {o : Str} {r : Int}
    (hv : SXs c ρ ω [("AND", e1), ("OR", e2), ("XOR", e3), ("EQV", e4), ("IMP", e5)] [i1, i2, i3, i4, i5]) (hx : c.vars[j]? = some x) (hn : plainName x = true) (hg : ρ.get j = some (.str o))
    (ho : (o = "AND" ∧ r = i1) ∨ (o = "OR" ∧ r = i2) ∨ (o = "XOR" ∧ r = i3) ∨ (o = "EQV" ∧ r = i4) ∨ (o = "IMP" ∧ r = i5)) (hr : K (.int r) ω) :
    SE c (.Subscript (.Dict [some (.Constant (.str "AND") 0 p1), some (.Constant (.str "OR") 0 p2), some (.Constant (.str "XOR") 0 p3), some (.Constant (.str "EQV") 0 p4), some (.Constant (.str "IMP") 0 p5)] [e1, e2, e3, e4, e5] dp) (.Name x np) pos) ρ ω K X := fun s Q E f hQ hE => by
  let kp : Str → Nat × Pos := fun y => if y = "AND" then (0, p1) else if y = "OR" then (0, p2) else if y = "XOR" then (0, p3) else if y = "EQV" then (0, p4) else (0, p5)
  refine Subscript_ (wpAny_Dict_pairs (knd := strKind PRG c.w) (pairs := pairsOf c.env dp [("AND", e1), ("OR", e2), ("XOR", e3), ("EQV", e4), ("IMP", e5)] kp) rfl (by simp [pairsOf]) (by simp [pairsOf]) ?_)
  have pk : ∀ b o, s.heap.get? b = some o → (s.heap.push { cls := .type "dict", data := .dict #[] }).get? b = some o := push_keeps
  have f0 : FrI c ρ ω { s with heap := s.heap.push { cls := .type "dict", data := .dict #[] } } := f.ext pk
  have dG : c.G.get? s.heap.objs.size = none := f.fresh.g
  have dNew : (s.heap.push { cls := .type "dict", data := .dict #[] }).DictOf (strKind PRG c.w) s.heap.objs.size [] := Heap.DictOf.new _
  refine SXs_eval hv _ _ _ f0 fun vs t5 h1 tk1 hc k1 => ?_
  obtain ⟨od0, es0, ep0, q1, q2⟩ := dNew
  refine ⟨lst5 i1 i2 i3 i4 i5 t5, hc, ⟨od0, es0, ep0, k1 _ _ q1, q2⟩, fun h' hd' hs' => ?_⟩
  have i1' : Inv c.toSt ω { s with heap := h1, toks := tk1 } := (f0.ext k1).inv
  have fo : Foreign c.toSt h1 s.heap.objs.size := ⟨dG, fun o e => by rw [k1 _ _ q1] at e; cases e; exact .inr (.inl ⟨_, _, q2.2.1⟩)⟩
  have iv2 : Inv c.toSt ω { s with heap := h', toks := tk1 + vs.length } := i1'.foreign hs'.extBut fo
  have kp2 : Kp c.bx s.heap h' := (Kp.of_keeps fun b o e => k1 b o (pk b o e)).but hs'.extBut fun o e _ _ => absurd (Heap.lt_size e) (Nat.lt_irrefl _)
  have f2 := f.step iv2 kp2
  obtain ⟨x', v, e, y, rv⟩ := f2.vars j _ hg
  rw [hx] at e; cases e
  obtain ⟨t, rfl⟩ := vr_str.mp rv
  have hn' := hn
  simp only [plainName, Bool.and_eq_true, Bool.not_eq_true'] at hn'
  refine wpAny_Name (loadVar O y hn ?_) hn'.1.1
  rw [lst5_merged] at hd'
  obtain ⟨tr, hvv⟩ := lst5_at (t := t5) ho
  refine kba_turn (value' := .Name (Str.ofString "_") ⟨0, 0, 0, 0⟩) (fun _ => rfl) ?_
  exact tail_any (Heap.MapOf.typeIs (s := { s with heap := h', toks := tk1 + vs.length }) hd'.mapOf) slot_dict_getitem.lookup (wpAny_getItem_of (strKind_is PRG c.w o t) hd'.mapOf hvv (hQ _ _ ω _ hr iv2.tok kp2 vr_int')) (by with_unfolding_all rfl)
end
end Mine
end TextND
section TextNE
open PySem PySem.W PySem.Calls PyProof.Rows
set_option Elab.async false
set_option linter.unusedVariables false
set_option maxRecDepth 100000
namespace Mine
/-- a change at a list of the call's own -/
theorem Inv.seqAt {c : St} {ω : Om} {s : Shared} {h' : Heap} {tk : Nat} {D : Addr} {o : Obj} {vs : Array Value} {n : Nat} (i : Inv c ω s) (hx : Heap.ExtBut D s.heap h') (hD : s.heap.get? D = some o) (hd : o.data = .seq vs n) (hG : c.G.get? D = none) (hb : D ≠ c.bx) :
    Inv c ω { s with heap := h', toks := tk } := by
  have tab : ∀ P q, TabI s.heap P q → TabI h' P q := fun P q ⟨ps, e, t, r⟩ => by
    refine ⟨ps, hx P _ (fun z => ?_) e, t, fun pos cv hc => ⟨(r pos cv hc).1, ?_⟩⟩
    · rw [z, hD] at e; cases e; cases hd
    · obtain ⟨c', o', vs', tq, e1, e2, e3, e4⟩ := (r pos cv hc).2
      refine ⟨c', o', vs', tq, e1, hx c' _ (fun z => ?_) e2, e3, e4⟩
      rw [z, hD] at e2; cases e2; rw [hd] at e3; cases e3
  refine ⟨i.gens, i.os, fun b ob e => hx b _ (fun z => by rw [z, hG] at e; cases e) (i.stays b ob e), tab _ _ i.tabA, tab _ _ i.tabB, ?_, fun b0 b1 hq => ?_⟩
  · obtain ⟨o', vs', n', e, d⟩ := i.bxs
    exact ⟨o', vs', n', hx _ _ (Ne.symm hb) e, d⟩
  · obtain ⟨g, o', n', t0, t1, e, r⟩ := i.box b0 b1 hq
    exact ⟨g, o', n', t0, t1, hx _ _ (Ne.symm hb) e, r⟩
mutual
/-- no list within -/
noncomputable def nl : PV → Bool
  | .tup xs => nls xs
  | .lst _ => false
  | _ => true
noncomputable def nls : List PV → Bool
  | [] => true
  | x :: xs => nl x && nls xs
end
mutual
theorem Vr.butList {bx D : Addr} {h h' : Heap} {oD : Obj} (hs : Heap.ExtBut D h h') (hD : h.get? D = some oD) (hc : oD.cls = .type "list") : ∀ {p : PV} {v : Value}, nl p = true → Vr bx h p v → Vr bx h' p v
  | .non, _, _, r => by unfold Vr at r ⊢; exact r
  | .bool _, _, _, r => by unfold Vr at r ⊢; exact r
  | .int _, _, _, r => by unfold Vr at r ⊢; exact r
  | .str _, _, _, r => by unfold Vr at r ⊢; exact r
  | .tup xs, _, n, r => by
    unfold nl at n
    obtain ⟨a, o, vs, k, e, hb, ho, hcl, hd, hl⟩ := vr_tup.mp r
    refine vr_tup.mpr ⟨a, o, vs, k, e, hb, hs a o (fun z => ?_) ho, hcl, hd, VrL.butList hs hD hc n hl⟩
    rw [z, hD] at ho; cases ho
    rw [hc] at hcl
    simp at hcl
  | .lst xs, _, n, r => by unfold nl at n; cases n
  | .box, _, _, r => by unfold Vr at r ⊢; exact r
  | .adr _, _, _, r => by unfold Vr at r ⊢; exact r
  | .bi _, _, _, r => by unfold Vr at r ⊢; exact r
  | .ty _, _, _, r => by unfold Vr at r ⊢; exact r
theorem VrL.butList {bx D : Addr} {h h' : Heap} {oD : Obj} (hs : Heap.ExtBut D h h') (hD : h.get? D = some oD) (hc : oD.cls = .type "list") : ∀ {ps : List PV} {vs : List Value}, nls ps = true → VrL bx h ps vs → VrL bx h' ps vs
  | [], _, _, r => by rw [vrl_nil.mp r]; exact vrl_nil.mpr rfl
  | p :: ps, _, n, r => by
    unfold nls at n
    rw [Bool.and_eq_true] at n
    obtain ⟨v, t, e, r1, r2⟩ := vrl_cons.mp r
    exact vrl_cons.mpr ⟨v, t, e, Vr.butList hs hD hc n.1 r1, VrL.butList hs hD hc n.2 r2⟩
end
theorem nls_of : ∀ {ps : List PV}, (∀ p ∈ ps, nl p = true) → nls ps = true
  | [], _ => by unfold nls; rfl
  | p :: ps, h => by unfold nls; rw [h p (.head _), nls_of fun q hq => h q (.tail _ hq)]; rfl
section
variable {c : Cx} {ρ : Store} {ω : Om} {K : PV → Om → Prop} {X : Str → Om → Prop} {N : Store → Om → Prop} {R : PV → Om → Prop}
theorem comp_block (O : c.Ok) {s : Shared} (f : FrI c ρ ω s) {t : Addr} {ps : List PV} (ht : Vr c.bx s.heap (.tup ps) (.ref t)) {elt iter : Expr} {x : Str} {px pos : Pos} {scope : Scope} {cl : List (Str × Addr)} {use : Option (Value → Sem Unit)} {Q E : Value → Shared → Prop} (g : PV → PV)
    (hcell : ∀ y ∈ scope.names, y.2 ≠ .cell) (hkind : scope.kind = .function) (hx : scope.names.lookup x = some .local) (hlen : ps.length ≤ 64) (hnl : ∀ pv ∈ ps, nl (g pv) = true)
    (helt : ∀ pv ∈ ps, ∀ C m v s' (Q' E' : Value → Shared → Prop), FrI c ρ ω s' → s'.heap.Ns C m → m x = some v → Vr c.bx s'.heap pv v →
      (∀ a s'', Inv c.toSt ω s'' → Kp c.bx s'.heap s''.heap → Vr c.bx s''.heap (g pv) a → Q' a s'') → wpAny (model PRG c.w) c.A (eval elt (compEnvC scope cl C c.env)) Q' E' s')
    (fin : ∀ D C s' ys m, s'.heap.Ns C m → s.heap.get? C = none → s.heap.get? D = none → D ≠ C → C ≠ c.bx → s'.heap.IsList D ys → VrL c.bx s'.heap (ps.map g) ys.toList → Inv c.toSt ω s' → Kp c.bx s.heap s'.heap → compPost (model PRG c.w) c.A E use Q (.ref D) C (.ok .next) s') :
    wpAny (model PRG c.w) c.A (pyIter (.ref t)) (fun it s₂ => wpAny (model PRG c.w) c.A (newList []) (fun acc s₃ =>
      wpAny (model PRG c.w) c.A (newFunctionEnv scope c.env.globals cl [] c.env.qual none .none (some c.env)) (fun cenv s₄ =>
        codeAny (model PRG c.w) c.A (.compStart (.ListComp elt [⟨.Name x px, iter, [], 0⟩] scope pos) 0 it acc { cenv with scope := relabel scope c.env }) (compPost (model PRG c.w) c.A E use Q acc cenv.locals) s₄) E s₃) E s₂) E s := by
  obtain ⟨t', ot, vs, n, e, htb, hot, hct, hdt, hl⟩ := vr_tup.mp ht
  cases e
  have hsz : vs.size = ps.length := by have := vrl_len hl; simpa using this
  refine iter_tuple ⟨ot, hot, hct, n, hdt⟩ ?_
  have pk1 : ∀ b o, s.heap.get? b = some o → (s.heap.push { cls := .type "tuple_iterator", data := .fields #[.ref t, .int 0 0] }).get? b = some o := push_keeps
  have it1 : IsTupIter (s.heap.push { cls := .type "tuple_iterator", data := .fields #[.ref t, .int 0 0] }) s.heap.objs.size t 0 := ⟨_, Heap.get?_push_size _ rfl, rfl, rfl⟩
  have sz1 : (s.heap.push { cls := .type "tuple_iterator", data := .fields #[.ref t, .int 0 0] }).objs.size = s.heap.objs.size + 1 := Heap.size_push ..
  generalize s.heap.push { cls := .type "tuple_iterator", data := .fields #[.ref t, .int 0 0] } = h1 at pk1 it1 sz1 ⊢
  refine wpAny_newObj_type (wpAny_newFunctionEnv hcell (by intro y hy; cases hy) (fun h₁ hns₁ hsb₁ => ?_) hkind) (by size_fits)
  dsimp only at hns₁ hsb₁ ⊢
  have pk2 : ∀ b o, h1.get? b = some o → (h1.push { cls := .type "list", dict := none, data := .seq ([] : List Value).toArray }).get? b = some o := push_keeps
  have eD2 : (h1.push { cls := .type "list", dict := none, data := .seq ([] : List Value).toArray }).get? h1.objs.size = some { cls := .type "list", dict := none, data := .seq ([] : List Value).toArray } := Heap.get?_push_size _ rfl
  have sz2 : (h1.push { cls := .type "list", dict := none, data := .seq ([] : List Value).toArray }).objs.size = h1.objs.size + 1 := Heap.size_push ..
  generalize h1.push { cls := .type "list", dict := none, data := .seq ([] : List Value).toArray } = h2 at pk2 eD2 sz2 hns₁ hsb₁ ⊢
  have k12 : ∀ b o, h2.get? b = some o → h₁.get? b = some o := fun b o e => hsb₁.extBut b o (Nat.ne_of_lt (Heap.lt_size e)) (Heap.get?_push_of_some _ e)
  have ks : ∀ b o, s.heap.get? b = some o → h₁.get? b = some o := fun b o e => k12 b o (pk2 b o (pk1 b o e))
  have noAt : ∀ a, s.heap.objs.size ≤ a → s.heap.get? a = none := fun a ha => Heap.get?_none_of_le ha
  have hbx : c.bx < s.heap.objs.size := f.inv.bxlt
  have gNone : ∀ a, s.heap.objs.size ≤ a → c.G.get? a = none := fun a ha => by
    cases q : c.G.get? a with
    | none => rfl
    | some o => have := f.inv.stays _ _ q; rw [noAt a ha] at this; cases this
  have zC : h2.objs.size = s.heap.objs.size + 2 := by rw [sz2, sz1]
  have newC : s.heap.get? h2.objs.size = none := noAt _ (by omega)
  have newD : s.heap.get? h1.objs.size = none := noAt _ (by omega)
  have bxC : h2.objs.size ≠ c.bx := Nat.ne_of_gt (by rw [zC]; exact Nat.lt_succ_of_lt (Nat.lt_succ_of_lt hbx))
  have bxD : h1.objs.size ≠ c.bx := Nat.ne_of_gt (by rw [sz1]; exact Nat.lt_succ_of_lt hbx)
  have bxI : s.heap.objs.size ≠ c.bx := Nat.ne_of_gt hbx
  have gC : c.G.get? h2.objs.size = none := gNone _ (by omega)
  have gD : c.G.get? h1.objs.size = none := gNone _ (by omega)
  have newI := noAt _ (Nat.le_refl s.heap.objs.size)
  -- the loop
  have loop : ∀ s₃ : Shared, s₃ = { s with heap := h₁, toks := s.toks + ([] : List (Str × Value)).length } →
      codeAny (model PRG c.w) c.A (.compLoop (.ListComp elt [⟨.Name x px, iter, [], 0⟩] scope pos) 0 (.ref s.heap.objs.size) (.ref h1.objs.size) (compEnvC scope cl h2.objs.size c.env)) (compPost (model PRG c.w) c.A E use Q (.ref h1.objs.size) h2.objs.size) s₃ := by
    rintro s₃ rfl
    refine codeAny_compLoop_list (fun m s' => ∃ k ys mC, m = ps.length + 1 - k ∧ k ≤ ps.length ∧ Inv c.toSt ω s' ∧ Kp c.bx s.heap s'.heap ∧ IsTupIter s'.heap s.heap.objs.size t k ∧ s'.heap.Ns h2.objs.size mC ∧
      s'.heap.IsList h1.objs.size ys ∧ VrL c.bx s'.heap ((ps.take k).map g) ys.toList ∧ ys.size = k) ?_ (ps.length + 1)
      ⟨0, #[], _, by omega, Nat.zero_le _, (f.ext ks).inv, .of_keeps ks, ?_, hns₁, ⟨_, k12 _ _ eD2, rfl, _, rfl⟩, by simp; exact vrl_nil.mpr rfl, rfl⟩
    · rintro m s' ⟨k, ys, mC, rfl, hk, i', kp', hit, hC, hD, hys, hyk⟩
      have f' := f.step i' kp'
      obtain ⟨oi, hoi, hci, hdi⟩ := id hit
      have ot' : s'.heap.get? t = some ot := kp'.ex t ot hot htb (.seq hdt) fun es n z => by rw [hdt] at z; cases z
      have hit_ne_D : s.heap.objs.size ≠ h1.objs.size := by rw [sz1]; omega
      have hit_ne_C : s.heap.objs.size ≠ h2.objs.size := by rw [sz2, sz1]; omega
      have hD_ne_C : h1.objs.size ≠ h2.objs.size := by rw [sz2]; omega
      have rcI : ∀ (o : Obj), o.cls = .type "tuple_iterator" → (∃ v j, o.data = .fields #[v, .int j 0]) → Rec o := fun o hc ⟨v, j, hd⟩ =>
        ⟨_, hd, by rw [hc]; simp, by rw [hc]; simp, by rw [hc]; simp, fun q t z => by simp at z⟩
      by_cases hlt : k < ps.length
      · refine next_tuple_item hit ⟨ot, ot', hct, n, hdt⟩ (x := vs[k]'(by omega)) (by simp [hsz, hlt]) fun h₂ hit₂ hs₂ => ?_
        have fo2 : Foreign c.toSt s'.heap s.heap.objs.size := ⟨gNone _ (Nat.le_refl _), fun o e => by
          rw [hoi] at e; cases e
          obtain ⟨ws, d, a, _, _, b⟩ := rcI oi hci ⟨_, _, hdi⟩
          exact .inl ⟨ws, d, a, b⟩⟩
        have i2 : Inv c.toSt ω { s' with heap := h₂ } := i'.foreign (tk := s'.toks) hs₂.extBut fo2
        have kp2 : Kp c.bx s.heap h₂ := kp'.but hs₂.extBut fun o e _ _ => by rw [newI] at e; cases e
        have hC2 : h₂.Ns h2.objs.size mC := hC.sameBut hs₂ (Ne.symm hit_ne_C)
        have hD2 : h₂.IsList h1.objs.size ys := hD.at fun o e => (hs₂.2 _ (Ne.symm hit_ne_D)).trans e
        have hys2 := hys.ks (fo2.ks hs₂.extBut)
        -- the target
        refine wpAny_assign_Name (wpAny_storeName_local (lookup_relabel_local hx) hC2 (fun h₃ hC3 hs₃ => ?_) (by simp [compEnvC, relabel, hkind]))
        obtain ⟨oC, esC, epC, hoC, hdC, _⟩ := id hC2
        have fo3 : Foreign c.toSt h₂ h2.objs.size := ⟨gC, fun o e => by rw [hoC] at e; cases e; exact .inr (.inl ⟨_, _, hdC⟩)⟩
        have i3 : Inv c.toSt ω { s' with heap := h₃, toks := s'.toks + 1 } := i2.foreign (s := { s' with heap := h₂ }) (tk := s'.toks + 1) hs₃.extBut fo3
        have kp3 : Kp c.bx s.heap h₃ := kp2.but hs₃.extBut fun o e _ _ => by have e' : s.heap.get? h2.objs.size = some o := e; rw [newC] at e'; cases e'
        have f3 := f.step (s' := { s' with heap := h₃, toks := s'.toks + 1 }) i3 kp3
        have hD3 : h₃.IsList h1.objs.size ys := hD2.at fun o e => (hs₃.2 _ hD_ne_C).trans e
        have hys3 := hys2.ks (fo3.ks hs₃.extBut)
        have hit3 : IsTupIter h₃ s.heap.objs.size t (k + 1) := let ⟨o, a, b⟩ := hit₂; ⟨o, (hs₃.2 _ hit_ne_C).trans a, b⟩
        obtain ⟨u, hu, ru⟩ := vrl_get (hl.mono kp3) (List.getElem?_eq_getElem hlt)
        have hu' : u = vs[k]'(by omega) := by
          rw [Array.getElem?_toList, Array.getElem?_eq_getElem (by omega)] at hu
          exact (Option.some.inj hu).symm
        subst hu'
        refine helt ps[k] (List.getElem_mem hlt) h2.objs.size _ _ _ _ _ f3 hC3 (by show (if x = x then _ else _) = _; rw [if_pos rfl]) ru fun a s₄ i4 kp4 ra => ?_
        have hD4 : s₄.heap.IsList h1.objs.size ys := by
          obtain ⟨o, q1, q2, n', q3⟩ := hD3
          exact ⟨o, kp4.ex _ _ q1 bxD (.seq q3) (fun es n z => by rw [q3] at z; cases z), q2, n', q3⟩
        have hC4 : ∃ m4, s₄.heap.Ns h2.objs.size m4 := by
          obtain ⟨o, es, ep, q1, q2, q3⟩ := hC3
          obtain ⟨sl, q4⟩ := kp4.up _ _ q1 bxC (.dict q2)
          exact ⟨_, _, es, ep, q4, q2, q3⟩
        obtain ⟨m4, hC4⟩ := hC4
        have hit4 : IsTupIter s₄.heap s.heap.objs.size t (k + 1) := by
          obtain ⟨o, q1, q2, q3⟩ := hit3
          exact ⟨o, kp4.ex _ _ q1 bxI (rcI o q2 ⟨_, _, q3⟩).kept (fun es n z => by rw [q3] at z; cases z), q2, q3⟩
        have hys4 := hys3.mono kp4
        -- append
        refine wpAny_list_append hD4 (fun h₅ hD5 hs₅ => ?_) (by rw [sizeLine_eq, hyk]; omega)
        obtain ⟨oD, q1, q2, nD, q3⟩ := id hD4
        have i5 : Inv c.toSt ω { s₄ with heap := h₅ } := i4.seqAt (tk := s₄.toks) hs₅.extBut q1 q3 gD bxD
        have kp5 : Kp c.bx s.heap h₅ := (kp3.trans kp4).but hs₅.extBut fun o e _ _ => by rw [newD] at e; cases e
        refine ⟨ps.length + 1 - (k + 1), by omega, k + 1, ys.push a, m4, rfl, hlt, i5, kp5, ?_, ?_, hD5, ?_, by simp [hyk]⟩
        · obtain ⟨o, a1, a2⟩ := hit4
          exact ⟨o, (hs₅.2 _ hit_ne_D).trans a1, a2⟩
        · exact hC4.sameBut hs₅ (Ne.symm hD_ne_C)
        · rw [show (ps.take (k + 1)).map g = (ps.take k).map g ++ [g ps[k]] by rw [List.take_succ_eq_append_getElem hlt, List.map_append]; rfl, Array.toList_push]
          refine VrL.butList hs₅.extBut q1 q2 (nls_of fun p hp => ?_) (vrl_append hys4 (vrl_cons.mpr ⟨a, [], rfl, ra, vrl_nil.mpr rfl⟩))
          rcases List.mem_append.mp hp with hp | hp
          · obtain ⟨p', hp', rfl⟩ := List.mem_map.mp hp
            exact hnl p' (List.mem_of_mem_take hp')
          · rw [List.mem_singleton.mp hp]
            exact hnl _ (List.getElem_mem hlt)
      · have hkk : k = ps.length := by omega
        subst hkk
        refine next_tuple_end O.hand hit ⟨ot, ot', hct, n, hdt⟩ (by simp [hsz]) fun h₂ he₂ => ?_
        have fo2 : Foreign c.toSt s'.heap s.heap.objs.size := ⟨gNone _ (Nat.le_refl _), fun o e => by
          rw [hoi] at e; cases e
          obtain ⟨ws, d, a, _, _, b⟩ := rcI oi hci ⟨_, _, hdi⟩
          exact .inl ⟨ws, d, a, b⟩⟩
        rw [List.take_length] at hys
        exact fin _ _ { s' with heap := h₂ } ys mC (hC.extBut he₂ (Ne.symm hit_ne_C)) newC newD hD_ne_C bxC (hD.at fun o e => he₂ _ o (Ne.symm hit_ne_D) e) (hys.ks (fo2.ks he₂)) (i'.foreign (tk := s'.toks) he₂ fo2)
          (kp'.but he₂ fun o e _ _ => by rw [newI] at e; cases e)
    · obtain ⟨o, a1, a2⟩ := it1
      exact ⟨o, k12 _ _ (pk2 _ _ a1), a2⟩
  have itn : IsTupIter h₁ s.heap.objs.size t 0 := by
    obtain ⟨o, a1, a2⟩ := it1
    exact ⟨o, k12 _ _ (pk2 _ _ a1), a2⟩
  exact codeAny_compStart_list (loop _ rfl) (wpAny_pyIter_tupleiter itn (loop _ rfl))
end
end Mine
end TextNE
section TextNF
open PySem PySem.W PySem.Calls PyProof.Rows
set_option Elab.async false
set_option linter.unusedVariables false
set_option maxRecDepth 100000
namespace Mine
section
variable {c : Cx} {ρ : Store} {ω : Om} {K : PV → Om → Prop} {X : Str → Om → Prop} {N : Store → Om → Prop} {R : PV → Om → Prop}
theorem FrI.dictAt {h' : Heap} {C : Addr} {s : Shared} (f : FrI c ρ ω s) {o : Obj} {es : Array DictEntry} {n : Nat} (hC : s.heap.get? C = some o) (hd : o.data = .dict es n) (hg : c.G.get? C = none) (he : ∀ o, c.he.get? C = some o → C ≠ c.bx → Keptd o → False) (hL : C ≠ c.L) (hfr : ∀ e ∈ c.outer, e.frame ≠ some C) (hs : Heap.SameBut C s.heap h') : FrI c ρ ω { s with heap := h' } := by
  have fo : Foreign c.toSt s.heap C := ⟨hg, fun o' e => by rw [hC] at e; cases e; exact .inr (.inl ⟨_, _, hd⟩)⟩
  have hN : ∀ m, s.heap.Ns c.L m → h'.Ns c.L m := fun m hm => hm.at fun o e => (hs.2 _ (Ne.symm hL)).trans e
  have hCl : ∀ k v, s.heap.IsCell k v → h'.IsCell k v := fun k v ⟨o', ho', hd'⟩ => ⟨o', (hs.2 _ fun z => by
    rw [z, hC] at ho'; cases ho'
    rw [hd] at hd'; cases hd').trans ho', hd'⟩
  refine ⟨f.inv.foreign (tk := s.toks) hs.extBut fo, f.ff.but hs.extBut hfr, f.kp.but hs.extBut he, let ⟨m, h⟩ := f.ns; ⟨m, hN m h⟩, fun x k h => let ⟨v, h⟩ := f.cel x k h; ⟨v, hCl k v h⟩, fun i pv h => ?_⟩
  obtain ⟨x, v, e, y, r⟩ := f.vars i pv h
  refine ⟨x, v, e, ?_, r.ks (fo.ks hs.extBut)⟩
  rcases y with ⟨q, m, b, e⟩ | ⟨q, k, b, e⟩
  · exact .inl ⟨q, m, hN m b, e⟩
  · exact .inr ⟨q, k, b, hCl k _ e⟩
noncomputable def closOf (scope : Scope) (κ : Str → Addr) : List (Str × Addr) := ((scope.names.filter (fun p => p.2 == .free)).map fun p => (p.1, κ p.1)).reverse
noncomputable def EltOk (c : Cx) (ρ : Store) (ω : Om) (elt : Expr) (x : Str) (scope : Scope) (cl : List (Str × Addr)) (g : PV → PV) (ps : List PV) : Prop :=
  ∀ pv ∈ ps, ∀ C m v s' (Q' E' : Value → Shared → Prop), FrI c ρ ω s' → s'.heap.Ns C m → m x = some v → Vr c.bx s'.heap pv v →
      (∀ a s'', Inv c.toSt ω s'' → Kp c.bx s'.heap s''.heap → Vr c.bx s''.heap (g pv) a → Q' a s'') → wpAny (model PRG c.w) c.A (eval elt (compEnvC scope cl C c.env)) Q' E' s'
noncomputable def compScopeOk (scope : Scope) (x : Str) : Bool := scope.kind == .function && (scope.names.all fun p => p.2 != .cell) && scope.names.lookup x == some .local && scope.names.all fun p => p.2 != .local || scope.names.lookup p.1 == some .local
theorem compScopeOk.parts {scope : Scope} {x : Str} (h : compScopeOk scope x = true) : scope.kind = .function ∧ (∀ y ∈ scope.names, y.2 ≠ .cell) ∧ scope.names.lookup x = some .local ∧ ∀ y ∈ scope.names, y.2 = .local → scope.names.lookup y.1 = some .local := by
  simp only [compScopeOk, Bool.and_eq_true, beq_iff_eq, List.all_eq_true, Bool.or_eq_true, bne_iff_ne] at h
  obtain ⟨⟨⟨h1, h2⟩, h3⟩, h4⟩ := h
  exact ⟨h1, h2, h3, fun y hy hl => (h4 y hy).resolve_left fun z => z hl⟩
theorem closOf_eq {scope : Scope} {κ : Str → Addr} (h : ∀ p ∈ scope.names, p.2 = .free → c.cl.lookup p.1 = some (κ p.1)) : closureFor scope c.env = pure (closOf scope κ) := closureFor_eq h
theorem SE_comp (O : c.Ok) {elt iter : Expr} {x : Str} {px pos : Pos} {scope : Scope} (κ : Str → Addr) (g : PV → PV) (hsc : compScopeOk scope x = true) (hfree : ∀ p ∈ scope.names, p.2 = .free → c.cl.lookup p.1 = some (κ p.1)) (hs : ∀ v, foldedSetIterable iter c.env v = pure v)
    (h : SE c iter ρ ω (fun v ω1 => ∃ ps, v = .tup ps ∧ ps.length ≤ 64 ∧ (∀ pv ∈ ps, nl (g pv) = true) ∧ EltOk c ρ ω1 elt x scope (closOf scope κ) g ps ∧ K (.lst (ps.map g)) ω1) X) :
    SE c (.ListComp elt [⟨.Name x px, iter, [], 0⟩] scope pos) ρ ω K X := fun s Q E f hQ hE => by
  obtain ⟨hk, hc, hx, hn⟩ := compScopeOk.parts hsc
  rw [eval_ListComp]
  refine wpAny_comprehension_free (use := none) rfl hs (closOf_eq hfree) hk hn (h s _ _ f (fun pv v ω1 s1 hp i1 k1 r1 => ?_) hE)
  obtain ⟨ps, rfl, hlen, hnl, helt, hK⟩ := hp
  have f1 := f.step i1 k1
  obtain ⟨t, ot, vs, n, rfl, _⟩ := vr_tup.mp r1
  refine comp_block O f1 r1 g hc hk hx hlen hnl helt fun D C s' ys m hC nC nD hDC bC hD hys i' kp' => ?_
  refine ⟨m, hC, fun h' hs' => ?_⟩
  obtain ⟨oC, es, ep, hoC, hdC, _⟩ := id hC
  have gC : c.G.get? C = none := by
    cases q : c.G.get? C with
    | none => rfl
    | some o => have := f1.inv.stays _ _ q; rw [nC] at this; cases this
  have fo : Foreign c.toSt s'.heap C := ⟨gC, fun o e => by rw [hoC] at e; cases e; exact .inr (.inl ⟨_, _, hdC⟩)⟩
  have bD : D ≠ c.bx := fun z => by
    obtain ⟨o, vs, n, e, _⟩ := f1.inv.bxs
    rw [← z, nD] at e; cases e
  refine hQ _ _ ω1 _ hK (i'.foreign (tk := s'.toks) hs'.extBut fo) (k1.trans (kp'.but hs'.extBut fun o e _ _ => by rw [nC] at e; cases e)) ?_
  obtain ⟨o, q1, q2, n', q3⟩ := hD
  exact vr_lst.mpr ⟨D, o, ys, n', rfl, bD, (hs'.2 D hDC).trans q1, q2, q3, hys.ks (fo.ks hs'.extBut)⟩
theorem S_asgComp (O : c.Ok) {elt iter : Expr} {x y : Str} {px py pos spos : Pos} {scope : Scope} {i : Nat} (κ : Str → Addr) (g : PV → PV) (hsc : compScopeOk scope x = true) (hfree : ∀ p ∈ scope.names, p.2 = .free → c.cl.lookup p.1 = some (κ p.1)) (hs : ∀ v, foldedSetIterable iter c.env v = pure v)
    (hsw : swapsWith (.ListComp elt [⟨.Name x px, iter, [], 0⟩] scope pos) (some (.Name y py)) spos.line c.env = pure true) (hy : c.vars[i]? = some y) (hyl : c.cs.names.lookup y = some .local) (hi : i < ρ.length)
    (h : SE c iter ρ ω (fun v ω1 => ∃ ps, v = .tup ps ∧ ps.length ≤ 64 ∧ (∀ pv ∈ ps, nl (g pv) = true) ∧ EltOk c ρ ω1 elt x scope (closOf scope κ) g ps ∧ N (ρ.set i (some (.lst (ps.map g)))) ω1) X) :
    SS c (exec (.Assign [.Name y py] (.ListComp elt [⟨.Name x px, iter, [], 0⟩] scope pos) spos) c.env) ρ ω N R X := fun s Q E f hN hR hE => by
  obtain ⟨hk, hc, hx, hn⟩ := compScopeOk.parts hsc
  rw [exec_Assign_Name_used _ _ _ _ hsw]
  refine wpAny_bind (wpAny_standAt (wpAny_bind ?_))
  show wpAny _ c.A (do let _ ← comprehension (.ListComp elt [⟨.Name x px, iter, [], 0⟩] scope pos) scope c.env _ (newList []) false (eval iter c.env) (some (assign (.Name y py) c.env))) _ _ s
  refine wpAny_bind (wpAny_mono (wpAny_comprehension_free (use := some (assign (.Name y py) c.env)) (Q := fun _ s' => Q .next s') rfl hs (closOf_eq hfree) hk hn (h s _ _ f (fun pv v ω1 s1 hp i1 k1 r1 => ?_) fun code ea ω' s' x i k e => hE code ea ω' s' x (f.step i k).weak e)) (fun _ s' hq => wpAny_pure (wpAny_pure hq)) fun _ _ e => e)
  obtain ⟨ps, rfl, hlen, hnl, helt, hK⟩ := hp
  have f1 := f.step i1 k1
  obtain ⟨t, ot, vs, n, rfl, _⟩ := vr_tup.mp r1
  refine comp_block O f1 r1 g hc hk hx hlen hnl helt fun D C s' ys m hC nC nD hDC bC hD hys i' kp' => ?_
  have f' := f1.step i' kp'
  have bD : D ≠ c.bx := fun z => by
    obtain ⟨o, vs, n, e, _⟩ := f1.inv.bxs
    rw [← z, nD] at e; cases e
  obtain ⟨o, q1, q2, n', q3⟩ := id hD
  show wpAny _ c.A (assign (.Name y py) c.env (.ref D)) _ _ _
  have hCL : C ≠ c.L := fun z => by
    obtain ⟨m0, oL, es, ep, hoL, _⟩ := f1.ns
    rw [← z, nC] at hoL; cases hoL
  refine wpAny_assign_Name (f'.store' O hy hi (.inl hyl) (pv := .lst (ps.map g)) (vr_lst.mpr ⟨D, o, ys, n', rfl, bD, q1, q2, q3, hys⟩) fun s₂ f₂ kn₂ nb₂ => ?_)
  obtain ⟨m2, hC2, _⟩ := nb₂.ns C m hC
  refine ⟨m2, hC2, fun h' hs' => ?_⟩
  obtain ⟨oC, es, ep, hoC, hdC, _⟩ := id hC2
  have gC : c.G.get? C = none := by
    cases q : c.G.get? C with
    | none => rfl
    | some o => have := f1.inv.stays _ _ q; rw [nC] at this; cases this
  obtain ⟨o2, es2, ep2, ho2, hd2, _⟩ := id hC2
  have hfr : ∀ e ∈ c.outer, e.frame ≠ some C := fun e hE z => by
    obtain ⟨_, L, o, es, n, hf, _, ho, _⟩ := f1.ff e hE
    rw [hf] at z; cases z
    rw [nC] at ho; cases ho
  have k1' := (Kp.kn kp').trans kn₂
  exact hN _ _ _ hK (f₂.dictAt ho2 hd2 gC (f1.kp.noK nC) hCL hfr hs') (k1.kn.trans (k1'.but hs'.extBut nC))
end
end Mine
end TextNF
section TextNG
open PySem PySem.W PySem.Calls PyProof.Rows
set_option Elab.async false
set_option linter.unusedVariables false
set_option maxRecDepth 100000
namespace Mine
structure Fx (c : Cx) (sc : Scope) (vs : List Str) (n : Nat) : Prop where
  ok : c.Ok
  cs : c.cs = sc
  vars : c.vars = vs
  dep : n ≤ c.d
inductive At : List Str → Nat → Str → Prop
  | head {x xs} : At (x :: xs) 0 x
  | tail {x y xs i} : At xs i x → At (y :: xs) (i + 1) x
theorem At.get : ∀ {xs i x}, At xs i x → xs[i]? = some x
  | _, _, _, .head => rfl
  | _, _, _, .tail h => h.get
inductive Ats : List Str → List Nat → List Str → Prop
  | nil {vs} : Ats vs [] []
  | cons {vs i x is xs} : At vs i x → Ats vs is xs → Ats vs (i :: is) (x :: xs)
inductive Nms : List Expr → List Str → Prop
  | nil : Nms [] []
  | cons {x p es xs} : Nms es xs → Nms (.Name x p :: es) (x :: xs)
theorem Nms.map : ∀ {es xs}, Nms es xs → es.map nmOf = xs.map some
  | _, _, .nil => rfl
  | _, _, .cons h => by rw [List.map_cons, List.map_cons, h.map]; rfl
inductive Gl : Str → Addr → Prop
  | a44 : Gl "figures_of" 44
  | a51 : Gl "rounded_by" 51
  | a58 : Gl "made" 58
  | a65 : Gl "whole_near" 65
  | a72 : Gl "fits" 72
  | a79 : Gl "whole_of" 79
  | a86 : Gl "decimal_of" 86
  | a94 : Gl "d_negated" 94
  | a101 : Gl "alike" 101
  | a108 : Gl "d_add" 108
  | a115 : Gl "d_sub" 115
  | a122 : Gl "d_mul" 122
  | a129 : Gl "with_rest" 129
  | a136 : Gl "d_div" 136
  | a143 : Gl "d_compare" 143
  | a164 : Gl "is_whole" 164
  | a171 : Gl "settled" 171
  | a178 : Gl "whole_reckoned" 178
  | a185 : Gl "cut_quotient" 185
  | a192 : Gl "cut_rest" 192
  | a199 : Gl "exponent_of" 199
  | a206 : Gl "whole_power" 206
  | a213 : Gl "raised" 213
  | a220 : Gl "reckoned" 220
  | a227 : Gl "negated" 227
  | a234 : Gl "order_of" 234
  | a241 : Gl "stands_so" 241
  | a248 : Gl "inverted" 248
  | a255 : Gl "logic" 255
  | a262 : Gl "_law_take" 262
  | a269 : Gl "_law_all" 269
  | a276 : Gl "_law_drawn" 276
  | a290 : Gl "_law_kept" 290
  | a297 : Gl "_law_near" 297
  | a304 : Gl "_law_wholes" 304
  | a311 : Gl "_law_bits" 311
  | a318 : Gl "_law_due" 318
  | a325 : Gl "_law_value" 325
  | a332 : Gl "_law_pair_right" 332
  | a337 : Gl "_law_order_right" 337
theorem Gl.at {x : Str} {a : Addr} (g : Gl x a) (w : World) : nsIn (KF w) mainGlobals x = some (some (.ref a)) := by
  cases g <;> kernel_rfl
theorem Gl.plain {x : Str} {a : Addr} (g : Gl x a) : plainName x = true ∧ fnAddrs.contains a = true := by
  cases g <;> decide +kernel
inductive Gb : Str → PV → Prop
  | abs : Gb "abs" (.bi .abs)
  | min : Gb "min" (.bi .min)
  | max : Gb "max" (.bi .max)
  | repr : Gb "repr" (.bi .repr)
  | isinstance : Gb "isinstance" (.bi .isinstance)
  | int : Gb "int" (.ty .int)
  | str : Gb "str" (.ty .str)
  | tuple : Gb "tuple" (.ty .tuple)
theorem Gb.at {x : Str} {pv : PV} (g : Gb x pv) (w : World) : nsIn (KF w) mainGlobals x = some none := by
  cases g <;> kernel_rfl
theorem Gb.plain {x : Str} {pv : PV} (g : Gb x pv) : plainName x = true := by
  cases g <;> decide +kernel
theorem Gb.val {x : Str} {pv : PV} (g : Gb x pv) : ∃ v, bootBuiltins x = some v ∧ ∀ bx h, Vr bx h pv v := by
  cases g
  · exact ⟨.builtin "abs", by kernel_rfl, fun _ _ => vr_bi.mpr rfl⟩
  · exact ⟨.builtin "min", by kernel_rfl, fun _ _ => vr_bi.mpr rfl⟩
  · exact ⟨.builtin "max", by kernel_rfl, fun _ _ => vr_bi.mpr rfl⟩
  · exact ⟨.builtin "repr", by kernel_rfl, fun _ _ => vr_bi.mpr rfl⟩
  · exact ⟨.builtin "isinstance", by kernel_rfl, fun _ _ => vr_bi.mpr rfl⟩
  · exact ⟨.type "int", by kernel_rfl, fun _ _ => vr_ty.mpr rfl⟩
  · exact ⟨.type "str", by kernel_rfl, fun _ _ => vr_ty.mpr rfl⟩
  · exact ⟨.type "tuple", by kernel_rfl, fun _ _ => vr_ty.mpr rfl⟩
section
variable {c : Cx} {sc : Scope} {vs : List Str} {n : Nat} {ρ : Store} {ω : Om} {K : PV → Om → Prop} {X : Str → Om → Prop} {N : Store → Om → Prop} {R : PV → Om → Prop} {KB : Bool → Om → Prop} {KL : List PV → Om → Prop}
theorem wV (F : Fx c sc vs n) {i : Nat} {x : Str} {pos : Pos} {pv : PV} (hx : At vs i x) (hp : plainName x = true) (hg : ρ.get i = some pv) (h : K pv ω) : SE c (.Name x pos) ρ ω K X :=
  SE_var F.ok (by rw [F.vars]; exact hx.get) hp hg h
theorem wG (F : Fx c sc vs n) {x : Str} {pos : Pos} {a : Addr} (g : Gl x a) (hl : sc.names.lookup x = some .globalImplicit) (h : K (.adr a) ω) : SE c (.Name x pos) ρ ω K X :=
  SE_glob F.ok (g.at c.w) (by rw [F.cs]; exact hl) g.plain.1 (fun _ _ => vr_adr.mpr rfl) h
theorem wB (F : Fx c sc vs n) {x : Str} {pos : Pos} {pv : PV} (g : Gb x pv) (hl : sc.names.lookup x = some .globalImplicit) (h : K pv ω) : SE c (.Name x pos) ρ ω K X :=
  let ⟨_, hv, hr⟩ := g.val
  SE_bi F.ok (g.at c.w) hv (by rw [F.cs]; exact hl) g.plain hr h
theorem wCall (F : Fx c sc vs n) {x : Str} {np pos : Pos} {es : List Expr} {a : Addr} (g : Gl x a) (hl : sc.names.lookup x = some .globalImplicit) (hn : es.all notStar = true)
    (h : SL c (spliced (backTo pos (starEach es c.env))) ρ ω (fun ps ω2 => CallJ c (.adr a) ps ρ ω2 K X) X) : SE c (.Call (.Name x np) es [] pos) ρ ω K X :=
  SE_call F.ok hn (wG F g hl ⟨g.plain.2, h⟩)
theorem wCallB (F : Fx c sc vs (n + 6)) {x : Str} {np pos : Pos} {es : List Expr} {b : Bi} (g : Gb x (.bi b)) (hl : sc.names.lookup x = some .globalImplicit) (hn : es.all notStar = true)
    (h : SL c (spliced (backTo pos (starEach es c.env))) ρ ω (fun ps ω2 => Bcall b ps fun v => K v ω2) X) : SE c (.Call (.Name x np) es [] pos) ρ ω K X :=
  SE_call F.ok hn (wB F g hl ⟨trivial, fun s Q E f hQ hE => h s Q E f (fun b a ω' s' k => hQ b a ω' s' (CallJ_bi F.ok (by have := F.dep; omega) k)) hE⟩)
theorem wRet {e : Expr} {pos : Pos} (h : SE c e ρ ω R X) : SS c (exec (.Return (some e) pos) c.env) ρ ω N R X := S_ret h
theorem wAsg (F : Fx c sc vs n) {i : Nat} {x : Str} {e : Expr} {px pos : Pos} (hx : At vs i x) (hk : sc.names.lookup x = some .local) (hc : notComp e = true) (hi : i < ρ.length)
    (h : SE c e ρ ω (fun v ω1 => N (ρ.set i (some v)) ω1) X) : SS c (exec (.Assign [.Name x px] e pos) c.env) ρ ω N R X :=
  S_asg F.ok (by rw [F.vars]; exact hx.get) (.inl (by rw [F.cs]; exact hk)) hc hi h
theorem wAug (F : Fx c sc vs n) {i : Nat} {x : Str} {e : Expr} {op : Operator} {px pos : Pos} {pv : PV} (hx : At vs i x) (hk : sc.names.lookup x = some .local) (hp : plainName x = true) (hi : i < ρ.length) (hg : ρ.get i = some pv)
    (h : SE c e ρ ω (fun v ω1 => Iop op pv v fun r => N (ρ.set i (some r)) ω1) X) : SS c (exec (.AugAssign (.Name x px) op e pos) c.env) ρ ω N R X :=
  S_aug F.ok (by rw [F.vars]; exact hx.get) (.inl (by rw [F.cs]; exact hk)) hp hi hg h
theorem Ats.names (F : Fx c sc vs n) : ∀ {is : List Nat} {names : List Str}, Ats vs is names → vs.Nodup → names.map (idx vs) = is.map some
  | _, _, .nil, _ => rfl
  | _, _, .cons (i := i) (x := x) h t, hd => by
    rw [List.map_cons, List.map_cons, t.names F hd]
    congr 1
    have key : ∀ {ys : List Str} {i : Nat} {x : Str}, At ys i x → ys.Nodup → idx ys x = some i := by
      intro ys i x h
      induction h with
      | head => intro _; unfold idx; rw [if_pos rfl]
      | @tail x y xs i h ih =>
        intro nd
        rw [List.nodup_cons] at nd
        have hm : x ∈ xs := List.mem_of_getElem? h.get
        unfold idx
        rw [if_neg (fun q => nd.1 (by rw [q]; exact hm)), ih nd.2]; rfl
    exact key h hd
theorem wNames (F : Fx c sc vs n) {is : List Nat} {names : List Str} (ha : Ats vs is names) (hl : names.all (fun x => sc.names.lookup x == some .local) = true) (hi : is.all (fun i => decide (i < ρ.length)) = true) : Names c ρ is names :=
  ⟨by rw [F.vars]; exact ha.names F (F.vars ▸ F.ok.nodup), by rw [F.cs]; exact hl, hi⟩
theorem wTup (F : Fx c sc vs n) {elts : List Expr} {k : Nat} {tpos pos : Pos} {value : Expr} {names : List Str} {is : List Nat} (hn : Nms elts names) (ha : Ats vs is names) (hl : names.all (fun x => sc.names.lookup x == some .local) = true) (hi : is.all (fun i => decide (i < ρ.length)) = true)
    (hs : ∀ env, swapsWithSole [.Tuple elts k tpos] value pos.line env = pure false) (hw : ∀ env, swappedStores [.Tuple elts k tpos] value env = pure none)
    (h : SE c value ρ ω (fun v ω1 => ∃ ps, (v = .tup ps ∨ v = .lst ps) ∧ ps.length = names.length ∧ N (setAll ρ is ps) ω1) X) : SS c (exec (.Assign [.Tuple elts k tpos] value pos) c.env) ρ ω N R X :=
  S_asgT F.ok hn.map (wNames F ha hl hi) (hs _) (hw _) h
theorem wTupC (F : Fx c sc vs n) {elts : List Expr} {k : Nat} {tpos pos : Pos} {value : Expr} {names : List Str} {is : List Nat} (hn : Nms elts names) (ha : Ats vs is names) (hl : names.all (fun x => sc.names.lookup x == some .local) = true) (hi : is.all (fun i => decide (i < ρ.length)) = true)
    (hs : ∀ env, swapsWithSole [.Tuple elts k tpos] value pos.line env = pure false) (hw : ∀ cn L a ccd cl, swappedStores [.Tuple elts k tpos] value (envX cn sc L a ccd cl) = pure none)
    (h : SE c value ρ ω (fun v ω1 => ∃ ps, (v = .tup ps ∨ v = .lst ps) ∧ ps.length = names.length ∧ N (setAll ρ is ps) ω1) X) : SS c (exec (.Assign [.Tuple elts k tpos] value pos) c.env) ρ ω N R X :=
  S_asgT F.ok hn.map (wNames F ha hl hi) (hs _) (by rw [Cx.env, F.cs]; exact hw _ _ _ _ _) h
theorem wSwap (F : Fx c sc vs n) {elts : List Expr} {k : Nat} {tpos pos : Pos} {value : Expr} {names : List Str} {is : List Nat} (hn : Nms elts names) (ha : Ats vs is names) (hl : names.all (fun x => sc.names.lookup x == some .local) = true) (hi : is.all (fun i => decide (i < ρ.length)) = true)
    (hs : ∀ env, swapsWithSole [.Tuple elts k tpos] value pos.line env = pure false) (hw : ∀ cn L a ccd cl, swappedStores [.Tuple elts k tpos] value (envX cn sc L a ccd cl) = pure (some names))
    (h : SE c value ρ ω (fun v ω1 => ∃ ps, v = .tup ps ∧ ps.length = names.length ∧ N (setAll ρ is.reverse ps.reverse) ω1) X) : SS c (exec (.Assign [.Tuple elts k tpos] value pos) c.env) ρ ω N R X :=
  S_asgW F.ok (wNames F ha hl hi) (hs _) (by rw [Cx.env, F.cs]; exact hw _ _ _ _ _) h
theorem wRaise (F : Fx c sc vs (n + 2)) {np kp cpos pos : Pos} {k : Nat} {code : Str} (hx : sc.names.lookup ("BasicError" : Str) = some .globalImplicit) (hX : X code ω) :
    SS c (exec (.Raise (some (.Call (.Name "BasicError" np) [.Constant (.str code) k kp] [] cpos)) none pos) c.env) ρ ω N R X :=
  S_raise F.ok (by have := F.dep; omega) (by rw [F.cs]; exact hx) hX
theorem ST_and3 {x y z : Expr} {pos : Pos} {wh : Sem Value} (h : ST c (isTrue x c.env (eval x c.env)) ρ ω (fun t ω1 => Br t (ST c (isTrue y c.env (eval y c.env)) ρ ω1 (fun t ω2 => Br t (ST c (isTrue z c.env (eval z c.env)) ρ ω2 KB X) (KB false ω2)) X) (KB false ω1)) X) :
    ST c (isTrue (.BoolOp .And [x, y, z] pos) c.env wh) ρ ω KB X := fun s Q E f hQ hE =>
  wpAny_isTrue_BoolOp (wpAny_allTrue_And_cons (h s _ _ f (fun t t' ω1 s1 hK i1 k1 r1 => by
    obtain rfl := r1
    cases t with
    | false => exact hQ _ _ ω1 _ (hK.2 rfl) i1 k1 rfl
    | true => exact wpAny_allTrue_And_cons (hK.1 rfl s1 _ _ (f.step i1 k1) (fun t t' ω2 s2 hK i2 k2 r2 => by
        obtain rfl := r2
        cases t with
        | false => exact hQ _ _ ω2 _ (hK.2 rfl) i2 (k1.trans k2) rfl
        | true => exact wpAny_allTrue_And_cons (hK.1 rfl s2 _ _ ((f.step i1 k1).step i2 k2) (fun t t' ω3 s3 hK i3 k3 r3 => by
            obtain rfl := r3
            cases t with
            | false => exact hQ _ _ ω3 _ hK i3 ((k1.trans k2).trans k3) rfl
            | true => exact wpAny_allTrue_And_nil (hQ _ _ ω3 _ hK i3 ((k1.trans k2).trans k3) rfl))
            fun code ea ω' s' x i k e => hE code ea ω' s' x i ((k1.trans k2).trans k) e))
        fun code ea ω' s' x i k e => hE code ea ω' s' x i (k1.trans k) e)) hE))
end
/-! leaves -/
section
variable {a b i : Int} {p q : Bool} {x y : Str} {K : PV → Prop} {KB : Bool → Prop}
theorem Br_dec {P Q : Prop} {p' : Prop} [Decidable p'] (h1 : p' → P) (h2 : ¬p' → Q) : Br (decide p') P Q := ⟨fun h => h1 (of_decide_eq_true h), fun h => h2 (of_decide_eq_false h)⟩
theorem Br_ndec {P Q : Prop} {p' : Prop} [Decidable p'] (h1 : ¬p' → P) (h2 : p' → Q) : Br (!decide p') P Q := ⟨fun h => h1 (by simpa using h), fun h => h2 (by simpa using h)⟩
theorem Br_nn {P Q : Prop} {b : Bool} (h : Br b Q P) : Br (!b) P Q := ⟨fun h' => h.2 (by simpa using h'), fun h' => h.1 (by simpa using h')⟩
theorem Br_t {P Q : Prop} (h : P) : Br true P Q := ⟨fun _ => h, fun z => by cases z⟩
theorem Br_f {P Q : Prop} (h : Q) : Br false P Q := ⟨fun z => (by cases z), fun _ => h⟩
theorem b_add (h : K (.int (a + b))) : Bop .Add (.int a) (.int b) K := h
theorem b_sub (h : K (.int (a - b))) : Bop .Sub (.int a) (.int b) K := h
theorem b_mul (h1 : IntMulOk a b) (h : K (.int (a * b))) : Bop .Mult (.int a) (.int b) K := ⟨h1, h⟩
theorem b_fdiv (h1 : b ≠ 0) (h2 : b.natAbs.log2 < 9000) (h : K (.int (a.fdiv b))) : Bop .FloorDiv (.int a) (.int b) K := ⟨h1, h2, h⟩
theorem b_mod (h1 : b ≠ 0) (h : K (.int (a.fmod b))) : Bop .Mod (.int a) (.int b) K := ⟨h1, h⟩
theorem b_pow (h1 : 0 ≤ b) (h2 : (Builtin.Int.intBits a : Int) * b ≤ 2 ^ 27) (h : K (.int (a ^ b.toNat))) : Bop .Pow (.int a) (.int b) K := ⟨h1, h2, h⟩
theorem b_lsh (h1 : 0 ≤ b) (h2 : (Builtin.Int.intBits a : Int) + b ≤ 2 ^ 27) (h : K (.int (a * 2 ^ b.toNat))) : Bop .LShift (.int a) (.int b) K := ⟨h1, h2, h⟩
theorem b_and (h : K (.int (Builtin.bitAnd a b))) : Bop .BitAnd (.int a) (.int b) K := h
theorem b_or (h : K (.int (Builtin.bitOr a b))) : Bop .BitOr (.int a) (.int b) K := h
theorem b_xor (h : K (.int (Builtin.bitXor a b))) : Bop .BitXor (.int a) (.int b) K := h
theorem b_subb (h : K (.int (b2i p - b2i q))) : Bop .Sub (.bool p) (.bool q) K := ⟨rfl, h⟩
theorem i_add (h : K (.int (a + b))) : Iop .Add (.int a) (.int b) K := h
theorem i_mul (h1 : IntMulOk a b) (h : K (.int (a * b))) : Iop .Mult (.int a) (.int b) K := ⟨h1, h⟩
theorem c_lt (h : KB (decide (a < b))) : Cop .Lt (.int a) (.int b) KB := h
theorem c_le (h : KB (decide (a ≤ b))) : Cop .LtE (.int a) (.int b) KB := h
theorem c_gt (h : KB (decide (b < a))) : Cop .Gt (.int a) (.int b) KB := h
theorem c_ge (h : KB (decide (b ≤ a))) : Cop .GtE (.int a) (.int b) KB := h
theorem c_eq (h : KB (decide (a = b))) : Cop .Eq (.int a) (.int b) KB := h
theorem c_ne (h : KB (!decide (a = b))) : Cop .NotEq (.int a) (.int b) KB := h
theorem c_eqs (h : KB (decide (x = y))) : Cop .Eq (.str x) (.str y) KB := h
theorem c_nes (h : KB (!decide (x = y))) : Cop .NotEq (.str x) (.str y) KB := h
theorem c_lts (h : KB (decide (x.cps.toList < y.cps.toList))) : Cop .Lt (.str x) (.str y) KB := h
theorem c_gts (h : KB (decide (y.cps.toList < x.cps.toList))) : Cop .Gt (.str x) (.str y) KB := h
theorem c_eqb (h : KB (p == q)) : Cop .Eq (.bool p) (.bool q) KB := h
theorem c_neb (h : KB (p != q)) : Cop .NotEq (.bool p) (.bool q) KB := h
theorem k_abs (h : K (.int (if i < 0 then -i else i))) : Bcall .abs [.int i] K := ⟨rfl, h⟩
theorem k_min (h : K (.int (if b < a then b else a))) : Bcall .min [.int a, .int b] K := ⟨rfl, h⟩
theorem k_max (h : K (.int (if b > a then b else a))) : Bcall .max [.int a, .int b] K := ⟨rfl, h⟩
theorem k_isi {pv : PV} {T : Ty} {t : Bool} (hi : isi pv T = some t) (h : K (.bool t)) : Bcall .isinstance [pv, .ty T] K := ⟨rfl, t, hi, h⟩
theorem k_repr {pv : PV} (hi : ReprOk pv) (h : K (.str (reprPV pv))) : Bcall .repr [pv] K := ⟨rfl, hi, h⟩
theorem at_tup {ps : List PV} {ω : Om} {j : Nat} {pv : PV} (hj : j < 64) (hp : ps[j]? = some pv) (h : K pv) : Iat (.tup ps) (j : Int) ω K := by
  unfold Iat; exact ⟨j, rfl, pv, hp, hj, h⟩
theorem at_tup0 {ps : List PV} {ω : Om} {pv : PV} (h : K pv) : Iat (.tup (pv :: ps)) 0 ω K := at_tup (j := 0) (by decide) rfl h
theorem at_tup1 {ps : List PV} {ω : Om} {pu pv : PV} (h : K pv) : Iat (.tup (pu :: pv :: ps)) 1 ω K := at_tup (j := 1) (by decide) rfl h
theorem at_box0 (h : K (.int a)) : Iat .box 0 (some (a, b)) K := ⟨a, b, rfl, .inl ⟨rfl, h⟩⟩
theorem at_box1 (h : K (.int b)) : Iat .box 1 (some (a, b)) K := ⟨a, b, rfl, .inr ⟨rfl, h⟩⟩
end
end Mine
end TextNG
section TextPB0
open PySem PySem.W PySem.Calls PyProof.Rows
set_option Elab.async false
set_option linter.unusedVariables false
set_option maxRecDepth 100000
namespace Mine
theorem Br_bt {P Q : Prop} {b : Bool} (h : b = true) (hp : P) : Br b P Q := ⟨fun _ => hp, fun z => by rw [h] at z; cases z⟩
theorem Br_bf {P Q : Prop} {b : Bool} (h : b = false) (hp : Q) : Br b P Q := ⟨fun z => (by rw [h] at z; cases z), fun _ => hp⟩
theorem Br_eqb {P Q : Prop} {p q : Bool} (h1 : p = q → P) (h2 : ¬p = q → Q) : Br (p == q) P Q := ⟨fun h => h1 (by simpa using h), fun h => h2 (by simpa using h)⟩
theorem log_ok {b : Int} (h0 : 0 < b) (h : b < 10 ^ 1000) : b.natAbs.log2 < 9000 := by
  have h1 : b.natAbs ≠ 0 := by omega
  rw [Nat.log2_lt h1]
  have h2 : (b.natAbs : Int) < ((10 ^ 1000 : Nat) : Int) := by
    have : ((10 ^ 1000 : Nat) : Int) = (10 : Int) ^ 1000 := by rw [Int.natCast_pow]; rfl
    rw [this]; omega
  have h3 : b.natAbs < 10 ^ 1000 := by omega
  have h4 : 10 ^ 1000 ≤ 2 ^ 9000 := by decide +kernel
  omega
/-- a divisor that the model divides by in short form -/
structure NotBig (b : Int) : Prop where
  lt : b < 10 ^ 1000
theorem ten_big {b : Int} (h : b < 10 ^ 20) (_ : True) : NotBig b := ⟨Int.lt_trans h (by decide +kernel)⟩
theorem pow_big {p : Nat} (h : p ≤ 900) : NotBig ((10 : Int) ^ p) := by
  have : 10 ^ p < 10 ^ 1000 := Nat.pow_lt_pow_right (by decide) (by omega)
  exact ⟨by exact_mod_cast this⟩
theorem pow2_big {p : Nat} (h : p ≤ 900) : NotBig ((2 : Int) ^ p) := by
  have h1 : 2 ^ p ≤ 2 ^ 900 := Nat.pow_le_pow_right (by decide) h
  have h2 : 2 ^ 900 < 10 ^ 1000 := by decide +kernel
  have : 2 ^ p < 10 ^ 1000 := by omega
  exact ⟨by exact_mod_cast this⟩
section
variable {a b i : Int} {K : PV → Prop}
theorem b_fdivp (h1 : 0 < b) (h2 : NotBig b) (h : K (.int (a / b))) : Bop .FloorDiv (.int a) (.int b) K :=
  b_fdiv (by omega) (log_ok h1 h2.lt) (by rw [Int.fdiv_eq_ediv_of_nonneg _ (by omega)]; exact h)
theorem b_modp (h1 : 0 < b) (h : K (.int (a % b))) : Bop .Mod (.int a) (.int b) K :=
  b_mod (by omega) (by rw [Int.fmod_eq_emod_of_nonneg _ (by omega)]; exact h)
theorem b_pow10 (h1 : 0 ≤ b) (h2 : b ≤ 1000000) (h : K (.int (10 ^ b.toNat))) : Bop .Pow (.int 10) (.int b) K :=
  b_pow h1 (by rw [show (Builtin.Int.intBits 10) = 4 from by decide +kernel]; omega) h
theorem b_pow2 (h1 : 0 ≤ b) (h2 : b ≤ 1000000) (h : K (.int (2 ^ b.toNat))) : Bop .Pow (.int 2) (.int b) K :=
  b_pow h1 (by rw [show (Builtin.Int.intBits 2) = 2 from by decide +kernel]; omega) h
theorem b_lsh1 (h1 : 0 ≤ b) (h2 : b ≤ 1000000) (h : K (.int (2 ^ b.toNat))) : Bop .LShift (.int 1) (.int b) K :=
  b_lsh h1 (by rw [show (Builtin.Int.intBits 1) = 1 from by decide +kernel]; omega) (by rw [Int.one_mul]; exact h)
theorem k_absn (h : K (.int (i.natAbs : Int))) : Bcall .abs [.int i] K := k_abs (by
  have : (if i < 0 then -i else i) = (i.natAbs : Int) := by split <;> omega
  rw [this]; exact h)
theorem k_mini (h : K (.int (min a b))) : Bcall .min [.int a, .int b] K := k_min (by
  have : (if b < a then b else a) = min a b := by split <;> omega
  rw [this]; exact h)
theorem k_maxi (h : K (.int (max a b))) : Bcall .max [.int a, .int b] K := k_max (by
  have : (if b > a then b else a) = max a b := by split <;> omega
  rw [this]; exact h)
end
/-- what the law draws -/
inductive Va where
  | i (n : Int)
  | t (m e : Int)
  | s
noncomputable def Va.pv : Va → PV
  | .i n => .int n
  | .t m e => .tup [.int m, .int e]
  | .s => .str "A"
noncomputable def Va.isI : Va → Bool
  | .i _ => true
  | _ => false
noncomputable def Va.isS : Va → Bool
  | .s => true
  | _ => false
noncomputable def Va.isT : Va → Bool
  | .t _ _ => true
  | _ => false
section
variable {K : PV → Prop} {v : Va}
theorem k_isiS (h : K (.bool v.isS)) : Bcall .isinstance [v.pv, .ty .str] K := by cases v <;> exact k_isi rfl h
theorem k_isiI (h : K (.bool v.isI)) : Bcall .isinstance [v.pv, .ty .int] K := by cases v <;> exact k_isi rfl h
theorem k_isiT (h : K (.bool v.isT)) : Bcall .isinstance [v.pv, .ty .tuple] K := by cases v <;> exact k_isi rfl h
end
theorem ForP_nil {c : Cx} {i : Nat} {body : List Stmt} {N : Store → Om → Prop} {R : PV → Om → Prop} {ρ : Store} {ω : Om} (h : N ρ ω) : ForP c i body N R [] ρ ω := h
theorem ForP_cons {c : Cx} {i : Nat} {body : List Stmt} {N : Store → Om → Prop} {R : PV → Om → Prop} {p : PV} {ps : List PV} {ρ : Store} {ω : Om} (hi : i < ρ.length) (h : SS c (execs body c.env) (ρ.set i (some p)) ω (fun ρ' ω' => ForP c i body N R ps ρ' ω') R XF) : ForP c i body N R (p :: ps) ρ ω := ⟨hi, h⟩
theorem most_at (w : World) : ∃ t, nsIn (KF w) mainGlobals "MOST_EXPONENT" = some (some (.int 99 t)) := ⟨_, rfl⟩
theorem wMost {c : Cx} {sc : Scope} {vs : List Str} {n : Nat} {ρ : Store} {ω : Om} {K : PV → Om → Prop} {X : Str → Om → Prop} (F : Fx c sc vs n) {pos : Pos} (hl : sc.names.lookup ("MOST_EXPONENT" : Str) = some .globalImplicit) (h : K (.int 99) ω) : SE c (.Name "MOST_EXPONENT" pos) ρ ω K X :=
  let ⟨_, e⟩ := most_at c.w
  SE_glob F.ok e (by rw [F.cs]; exact hl) (by decide +kernel) (fun _ _ => vr_int') h
section
variable {c : Cx} {sc : Scope} {vs : List Str} {n : Nat} {ρ : Store} {ω : Om} {K : PV → Om → Prop} {X : Str → Om → Prop}
theorem wCallV (F : Fx c sc vs n) {i : Nat} {x : Str} {np pos : Pos} {es : List Expr} {a : Addr} (hx : At vs i x) (hp : plainName x = true) (hg : ρ.get i = some (.adr a)) (hf : fnAddrs.contains a = true) (hn : es.all notStar = true)
    (h : SL c (spliced (backTo pos (starEach es c.env))) ρ ω (fun ps ω2 => CallJ c (.adr a) ps ρ ω2 K X) X) : SE c (.Call (.Name x np) es [] pos) ρ ω K X :=
  SE_call F.ok hn (wV F hx hp hg ⟨hf, h⟩)
end
/-- a comparison of plain values or of data -/
noncomputable def CD (op : CmpOp) (a b : PV) (K : Bool → Prop) : Prop := Cop op a b K ∨ DCmp op a b K
noncomputable def dcheck (op : CmpOp) (a b : PV) : Option Bool := match dat a, dat b with
  | some da, some db => if da.canLay0 && db.canLay0 then dcmp op da db else none
  | _, _ => none
theorem DCmp_of {op : CmpOp} {a b : PV} {K : Bool → Prop} {t : Bool} (h : dcheck op a b = some t) (hk : K t) : DCmp op a b K := by
  unfold dcheck at h
  split at h
  · rename_i da db ea eb
    split at h
    · rename_i hl
      rw [Bool.and_eq_true] at hl
      exact ⟨da, db, t, ea, eb, hl.1, hl.2, h, hk⟩
    · cases h
  · cases h
noncomputable def isEqOp : CmpOp → Bool
  | .Eq => true
  | .NotEq => true
  | .In => true
  | _ => false
section
variable {a b : Int} {p q : Bool} {x y : Str} {K : Bool → Prop} {pa pb : PV} {op : CmpOp}
theorem cd_eq (h : K (decide (a = b))) : CD .Eq (.int a) (.int b) K := .inl h
theorem cd_ne (h : K (!decide (a = b))) : CD .NotEq (.int a) (.int b) K := .inl h
theorem cd_eqs (h : K (decide (x = y))) : CD .Eq (.str x) (.str y) K := .inl h
theorem cd_nes (h : K (!decide (x = y))) : CD .NotEq (.str x) (.str y) K := .inl h
theorem cd_eqb (h : K (p == q)) : CD .Eq (.bool p) (.bool q) K := .inl h
theorem cd_neb (h : K (p != q)) : CD .NotEq (.bool p) (.bool q) K := .inl h
theorem cd_dat (t : Bool) (h : dcheck op pa pb = some t) (hk : K t) : CD op pa pb K := .inr (DCmp_of h hk)
end
section
variable {c : Cx} {sc : Scope} {vs : List Str} {n : Nat} {ρ : Store} {ω : Om} {K : PV → Om → Prop} {KB : Bool → Om → Prop} {X : Str → Om → Prop}
theorem CD_sound (O : c.Ok) (hdp : 1 ≤ c.d) {s : Shared} {E : Value → Shared → Prop} {Q : Value → Shared → Prop} {op : CmpOp} {a b : PV} {v u : Value} {K : Bool → Prop} (h : CD op a b K) (ra : Vr c.bx s.heap a v) (rb : Vr c.bx s.heap b u) (hQ : ∀ b, K b → Q (.bool b) s) : wpAny (model PRG c.w) c.A (compareOp op v u) Q E s := by
  rcases h with h | ⟨da, db, t, e1, e2, e3, e4, e5, ht⟩
  · exact Cop_sound h ra rb hQ
  · exact dcmp_sound O hdp e1 e2 e3 e4 e5 ra rb (hQ _ ht)
theorem SE_cmpX (F : Fx c sc vs (n + 1)) {l r : Expr} {op : CmpOp} {pos : Pos} (ho : isEqOp op = true) (hm : behindInMarks op r = false) (h : SE c l ρ ω (fun a ω1 => SE c r ρ ω1 (fun b ω2 => CD op a b fun t => K (.bool t) ω2) X) X) :
    SE c (.Compare l [op] [r] pos) ρ ω K X := fun s Q E f hQ hE =>
  wpAny_Compare1 (h s _ _ f (fun _ _ ω1 s1 hK i1 k1 r1 => hK s1 _ _ (f.step i1 k1) (fun _ _ ω2 s2 hB i2 k2 r2 =>
    CD_sound F.ok (by have := F.dep; omega) hB (r1.mono k2) r2 fun t ht => hQ _ _ ω2 _ ht i2 (k1.trans k2) vr_bool')
    fun code ea ω' s' x i k e => hE code ea ω' s' x i (k1.trans k) e) hE) hm
theorem ST_cmpX (F : Fx c sc vs (n + 1)) {l r : Expr} {op : CmpOp} {pos : Pos} {wh : Sem Value} (ho : isEqOp op = true) (hm : behindInMarks op r = false) (h : SE c l ρ ω (fun a ω1 => SE c r ρ ω1 (fun b ω2 => CD op a b fun t => KB t ω2) X) X) :
    ST c (isTrue (.Compare l [op] [r] pos) c.env wh) ρ ω KB X := fun s Q E f hQ hE =>
  wpAny_isTrue_Compare1 (h s _ _ f (fun _ _ ω1 s1 hK i1 k1 r1 => hK s1 _ _ (f.step i1 k1) (fun _ _ ω2 s2 hB i2 k2 r2 =>
    CD_sound F.ok (by have := F.dep; omega) hB (r1.mono k2) r2 fun t ht => wpAny_truthy_bool (hQ t t ω2 _ ht i2 (k1.trans k2) rfl))
    fun code ea ω' s' x i k e => hE code ea ω' s' x i (k1.trans k) e) hE) hm
end
end Mine
end TextPB0
section TextLA
set_option linter.unusedVariables false
set_option exponentiation.threshold 2000
namespace Mine
structure FigR (n : Int) (k : Nat) : Prop where
  one : 1 ≤ k
  lt : n < 10 ^ k
  le : k = 1 ∨ 10 ^ (k - 1) ≤ n
noncomputable def rnd (n p : Int) : Int := if p ≤ 0 then n else if 2 * (n % 10 ^ p.toNat) > 10 ^ p.toNat ∨ (2 * (n % 10 ^ p.toNat) = 10 ^ p.toNat ∧ (n / 10 ^ p.toNat) % 2 = 1) then n / 10 ^ p.toNat + 1 else n / 10 ^ p.toNat
theorem pow_mono {a b : Nat} (h : a ≤ b) : (10 : Int) ^ a ≤ 10 ^ b := by
  have : 10 ^ a ≤ 10 ^ b := Nat.pow_le_pow_right (by decide) h
  exact_mod_cast this
theorem pow_pos10 (a : Nat) : (0 : Int) < 10 ^ a := Int.pow_pos (by decide)
theorem pow_lt_inv {a b : Nat} (h : (10 : Int) ^ a < 10 ^ b) : a < b := Nat.lt_of_not_le fun q => by have := pow_mono q; omega
theorem FigR.upto {n : Int} {k m : Nat} (h : FigR n k) (hm : 1 ≤ m) (hn : n < 10 ^ m) : k ≤ m := by
  rcases h.le with h1 | h1
  · omega
  · have := pow_lt_inv (Int.lt_of_le_of_lt h1 hn)
    omega
structure Mi (n e d s x : Int) : Prop where
  s0 : 0 ≤ s
  ex : e ≤ x
  le : s * 10 ^ (x - e).toNat ≤ 2 * n
  eq : ∀ s0 j : Nat, n = s0 * 10 ^ j → s0 % 10 ≠ 0 → (s0 : Int) < 10 ^ d.toNat → s * 10 ^ (x - e).toNat = n
theorem Mi.start {n e d : Int} (h : 0 ≤ n) : Mi n e d n e := by
  refine ⟨h, by omega, ?_, fun s0 j h1 h2 h3 => ?_⟩
  · rw [Int.sub_self]; show n * 1 ≤ _; omega
  · rw [Int.sub_self]; show n * 1 = _; omega
theorem Mi.step {n e d s x : Int} (h : Mi n e d s x) (h1 : s % 10 = 0) : Mi n e d (s / 10) (x + 1) := by
  have e1 : (x + 1 - e).toNat = (x - e).toNat + 1 := by have := h.ex; omega
  have e2 : s / 10 * 10 ^ (x + 1 - e).toNat = s * 10 ^ (x - e).toNat := by
    rw [e1, Int.pow_succ, Int.mul_comm (10 ^ _) 10, ← Int.mul_assoc, Int.ediv_mul_cancel (Int.dvd_of_emod_eq_zero h1)]
  refine ⟨Int.ediv_nonneg h.s0 (by decide), by have := h.ex; omega, by rw [e2]; exact h.le, fun s0 j a b c => by rw [e2]; exact h.eq s0 j a b c⟩
theorem rnd_le {n p : Int} (h0 : 0 ≤ n) (hp : 0 < p) : rnd n p * 10 ^ p.toNat ≤ n + 10 ^ p.toNat ∧ 0 ≤ rnd n p := by
  have hu := pow_pos10 p.toNat
  have hd := Int.mul_ediv_add_emod n (10 ^ p.toNat)
  have hm := Int.emod_nonneg n (Int.ne_of_gt hu)
  have hq : 0 ≤ n / 10 ^ p.toNat := Int.ediv_nonneg h0 (Int.le_of_lt hu)
  have hc := Int.mul_comm (10 ^ p.toNat) (n / 10 ^ p.toNat)
  rw [rnd, if_neg (by omega)]
  split
  · rw [Int.add_mul, Int.one_mul]; constructor <;> omega
  · constructor <;> omega
theorem rnd_exact {n p : Int} (hp : 0 < p) {q : Int} (h : n = q * 10 ^ p.toNat) : rnd n p = q := by
  have hu := pow_pos10 p.toNat
  have h1 : n % 10 ^ p.toNat = 0 := by rw [h]; exact Int.mul_emod_left _ _
  have h2 : n / 10 ^ p.toNat = q := by rw [h]; exact Int.mul_ediv_cancel _ (Int.ne_of_gt hu)
  rw [rnd, if_neg (by omega), h1, h2, if_neg (by omega)]
theorem Mi.round {n e d m : Int} {k : Nat} (h0 : 0 ≤ n) (hk : FigR n k) (hm : m = k - d) (hp : 0 < m) (hd : 1 ≤ d) : Mi n e d (rnd n m) (e + m) := by
  have e1 : (e + m - e).toNat = m.toNat := by congr 1; omega
  have hr := rnd_le h0 hp
  have hn : 10 ^ m.toNat ≤ n := by
    rcases hk.le with q | q
    · omega
    · exact Int.le_trans (pow_mono (by omega)) q
  refine ⟨hr.2, by omega, by rw [e1]; omega, fun s0 j a b c => ?_⟩
  rw [e1]
  have hj : m.toNat ≤ j := by
    refine Nat.le_of_not_lt fun q => ?_
    have h1 : n < 10 ^ (d.toNat + j) := by
      rw [a, Int.pow_add]
      exact Int.mul_lt_mul_of_pos_right c (pow_pos10 j)
    have h2 : (10 : Int) ^ (d.toNat + j) ≤ 10 ^ (k - 1) := pow_mono (by omega)
    rcases hk.le with q | q <;> omega
  have h3 : n = (s0 * 10 ^ (j - m.toNat)) * 10 ^ m.toNat := by
    rw [Int.mul_assoc, ← Int.pow_add, Nat.sub_add_cancel hj]; exact a
  rw [rnd_exact hp h3]; exact h3.symm
structure MadeR (c e d c' e' : Int) : Prop where
  shape : (c' = 0 ∧ e' = 0) ∨ (c' ≠ 0 ∧ e ≤ e' ∧ (c'.natAbs : Int) * 10 ^ (e' - e).toNat ≤ 2 * c.natAbs)
  ex : ∀ s j : Nat, (c.natAbs : Int) = s * 10 ^ j → s % 10 ≠ 0 → (s : Int) < 10 ^ d.toNat → c' = (if c < 0 then -(s : Int) else s) ∧ e' = e + j
theorem strip_unique : ∀ {a b : Nat} {i j : Nat}, a % 10 ≠ 0 → b % 10 ≠ 0 → a * 10 ^ i = b * 10 ^ j → a = b ∧ i = j
  | a, b, 0, 0, _, _, h => by simpa using h
  | a, b, 0, j + 1, ha, _, h => by rw [Nat.pow_succ, ← Nat.mul_assoc] at h; simp at h; omega
  | a, b, i + 1, 0, _, hb, h => by rw [Nat.pow_succ, ← Nat.mul_assoc] at h; simp at h; omega
  | a, b, i + 1, j + 1, ha, hb, h => by
    rw [Nat.pow_succ, Nat.pow_succ, ← Nat.mul_assoc, ← Nat.mul_assoc] at h
    have := strip_unique ha hb (Nat.eq_of_mul_eq_mul_right (by decide) h)
    omega
theorem Mi.made {c e d s x : Int} (h : Mi c.natAbs e d s x) (h1 : s % 10 ≠ 0) : MadeR c e d (if c < 0 then -s else s) x := by
  have h2 := h.s0
  have h3 := h.le
  have ha : ((if c < 0 then -s else s).natAbs : Int) = s := by split <;> omega
  refine ⟨.inr ⟨by split <;> omega, h.ex, by rw [ha]; exact h3⟩, fun s0 j a b g => ?_⟩
  have q := h.eq s0 j a b g
  rw [a] at q
  obtain ⟨u, hu⟩ : ∃ u : Nat, s = u := ⟨s.toNat, by omega⟩
  subst hu
  have q' : u * 10 ^ (x - e).toNat = s0 * 10 ^ j := by exact_mod_cast q
  obtain ⟨r1, r2⟩ := strip_unique (by omega) b q'
  subst r1
  refine ⟨rfl, ?_⟩
  have := h.ex
  omega
theorem Mi.first {n e d s x : Int} {k f : Nat} (h : Mi n e d s x) (h1 : 0 < s) (hn : n < 10 ^ k) (hf : FigR s f) : x + f ≤ e + k + 1 := by
  have hx := h.ex
  have h2 := h.le
  have hp := pow_pos10 (x - e).toNat
  have h3 : (10 : Int) ^ (f - 1) ≤ s := by
    rcases hf.le with q | q
    · subst q; show (1 : Int) ≤ s; omega
    · exact q
  have h4 : (10 : Int) ^ (f - 1 + (x - e).toNat) ≤ s * 10 ^ (x - e).toNat := by
    rw [Int.pow_add]
    exact Int.mul_le_mul_of_nonneg_right h3 (Int.le_of_lt hp)
  have h5 : (10 : Int) ^ (k + 1) = 10 ^ k * 10 := Int.pow_succ _ _
  have h7 := pow_pos10 k
  have := pow_lt_inv (a := f - 1 + (x - e).toNat) (b := k + 1) (by omega)
  have := hf.one
  omega
theorem MadeR.bounds {c e d c' e' : Int} (h : MadeR c e d c' e') {k : Nat} (hk : (c.natAbs : Int) < 10 ^ k) : min 0 e ≤ e' ∧ e' ≤ max 0 (e + k + 1) ∧ c'.natAbs ≤ 2 * c.natAbs := by
  rcases h.shape with ⟨h1, h2⟩ | ⟨h1, h2, h3⟩
  · subst h1 h2; omega
  · have hp := pow_pos10 (e' - e).toNat
    have h4 : (1 : Int) * 10 ^ (e' - e).toNat ≤ c'.natAbs * 10 ^ (e' - e).toNat := Int.mul_le_mul_of_nonneg_right (by omega) (Int.le_of_lt hp)
    have h5 : (c'.natAbs : Int) * 1 ≤ c'.natAbs * 10 ^ (e' - e).toNat := Int.mul_le_mul_of_nonneg_left (by omega) (by omega)
    have h6 : (10 : Int) ^ (k + 1) = 10 ^ k * 10 := Int.pow_succ _ _
    have h7 := pow_pos10 k
    have := pow_lt_inv (a := (e' - e).toNat) (b := k + 1) (by omega)
    omega
theorem MadeR.zero {e d c' e' : Int} (h : MadeR 0 e d c' e') : c' = 0 ∧ e' = 0 := by
  rcases h.shape with h | ⟨h1, h2, h3⟩
  · exact h
  · have hp := pow_pos10 (e' - e).toNat
    have h5 : (c'.natAbs : Int) * 1 ≤ c'.natAbs * 10 ^ (e' - e).toNat := Int.mul_le_mul_of_nonneg_left (by omega) (by omega)
    have : ((0 : Int).natAbs : Int) = 0 := rfl
    omega
noncomputable def strip : Nat → Nat → Nat × Nat
  | 0, n => (n, 0)
  | f + 1, n => if n % 10 = 0 then ((strip f (n / 10)).1, (strip f (n / 10)).2 + 1) else (n, 0)
theorem strip_spec : ∀ {f n : Nat}, n ≤ f → n ≠ 0 → n = (strip f n).1 * 10 ^ (strip f n).2 ∧ (strip f n).1 % 10 ≠ 0
  | 0, n, h, h0 => by omega
  | f + 1, n, h, h0 => by
    unfold strip
    split
    · rename_i h1
      have := strip_spec (f := f) (n := n / 10) (by omega) (by omega)
      refine ⟨?_, this.2⟩
      show n = (strip f (n / 10)).1 * 10 ^ ((strip f (n / 10)).2 + 1)
      rw [Nat.pow_succ, ← Nat.mul_assoc, ← this.1]; omega
    · rename_i h1
      exact ⟨by simp, h1⟩
noncomputable def signed (n : Int) (s : Nat) : Int := if n < 0 then -(s : Int) else s
theorem MadeR.strip {n d m' e' : Int} (h : MadeR n 0 d m' e') (h0 : n ≠ 0) (hd : (n.natAbs : Int) < 10 ^ d.toNat) : m' = signed n (strip n.natAbs n.natAbs).1 ∧ e' = (strip n.natAbs n.natAbs).2 := by
  have hs := strip_spec (f := n.natAbs) (n := n.natAbs) (Nat.le_refl _) (by omega)
  have hle : (Mine.strip n.natAbs n.natAbs).1 ≤ n.natAbs := by
    have : (Mine.strip n.natAbs n.natAbs).1 * 1 ≤ (Mine.strip n.natAbs n.natAbs).1 * 10 ^ (Mine.strip n.natAbs n.natAbs).2 := Nat.mul_le_mul_left _ (Nat.pow_pos (by decide))
    omega
  have := h.ex _ _ (by exact_mod_cast hs.1) hs.2 (by omega)
  exact ⟨this.1, by omega⟩
theorem strip_unique' {n s j : Nat} (h : n = s * 10 ^ j) (h1 : s % 10 ≠ 0) : (strip n n).1 = s ∧ (strip n n).2 = j := by
  have h0 : n ≠ 0 := by
    intro q
    rw [q] at h
    have := Nat.mul_eq_zero.mp h.symm
    rcases this with q | q
    · omega
    · have : 0 < 10 ^ j := Nat.pow_pos (by decide)
      omega
  have hs := strip_spec (f := n) (n := n) (Nat.le_refl _) h0
  exact strip_unique hs.2 h1 (hs.1.symm.trans h)
end Mine
end TextLA
section Walks
open PySem PySem.W PySem.Calls PyProof.Rows
set_option Elab.async false
set_option linter.unusedVariables false
set_option maxRecDepth 100000
set_option maxHeartbeats 4000000
set_option exponentiation.threshold 2000
namespace Mine
local macro_rules | `(tactic| walk_at "at") => `(tactic| (repeat (first | exact At.head | apply At.tail)))
local macro_rules | `(tactic| walk_at "ats") => `(tactic| (repeat' (first | exact Ats.nil | apply Ats.cons | exact At.head | apply At.tail)))
local macro_rules | `(tactic| walk_at "nms") => `(tactic| (repeat (first | exact Nms.nil | apply Nms.cons)))
local macro_rules | `(tactic| walk_at "v") => `(tactic| first
  | with_reducible (first | refine SS_nil ?_ | refine ForP_nil ?_)
  | ((with_reducible refine' ForP_cons ?w1 ?_); (case w1 => exact Nat.le_of_ble_eq_true rfl))
  | with_reducible (first | refine wRet ?_ | refine S_if ?_)
  | ((with_reducible refine' wAsg (by assumption) ?w1 ?w2 ?w3 ?w4 ?_); (case w1 => walk_at "at"); (case w2 => exact rfl); (case w3 => exact rfl); (case w4 => first | simp; done | exact Nat.le_of_ble_eq_true rfl))
  | ((with_reducible refine' wAug (by assumption) ?w1 ?w2 ?w3 ?w4 ?w5 ?_); (case w1 => walk_at "at"); (case w2 => exact rfl); (case w3 => exact rfl); (case w4 => first | simp; done | exact Nat.le_of_ble_eq_true rfl); (case w5 => exact rfl))
  | ((with_reducible apply wTupC (by assumption)); (focus (walk_at "nms")); (focus (walk_at "ats")); (focus (exact rfl)); (focus (first | simp; done | exact rfl)); (focus (intro _; exact rfl)); (focus (intro _ _ _ _ _; exact rfl)))
  | ((with_reducible apply wSwap (by assumption)); (focus (walk_at "nms")); (focus (walk_at "ats")); (focus (exact rfl)); (focus (first | simp; done | exact rfl)); (focus (intro _; exact rfl)); (focus (intro _ _ _ _ _; exact rfl)))
  | ((with_reducible refine' S_set0 ?w1 ?_); (case w1 => exact rfl))
  | ((with_reducible refine' S_set1 ?w1 ?_); (case w1 => exact rfl))
  | ((with_reducible refine' wRaise (by assumption) ?w1 ?_); (case w1 => exact rfl))
  | with_reducible refine SE_int ?_
  | ((with_reducible refine' wV (by assumption) ?w1 ?w2 ?w3 ?_); (case w1 => walk_at "at"); (case w2 => exact rfl); (case w3 => exact rfl))
  | with_reducible (first | refine SE_str ?_ | refine SE_bool ?_ | refine SE_none ?_ | refine SE_bin ?_)
  | ((with_reducible refine' SE_cmpX (by assumption) ?w1 ?w2 ?_); (case w1 => exact rfl); (case w2 => exact rfl))
  | ((with_reducible refine' SE_cmp ?w1 ?_); (case w1 => exact rfl))
  | ((with_reducible refine' SE_chain ?w1 ?_); (case w1 => exact rfl))
  | with_reducible (first | refine SE_ite ?_ | refine SE_neg ?_ | refine SE_not ?_ | refine SE_and ?_ | refine SE_or ?_ | refine SE_tup ?_ | refine SE_lst ?_ | refine SE_idx ?_)
  | ((with_reducible refine' wCall (by assumption) ?w1 ?w2 ?w3 ?_); (case w1 => constructor); (case w2 => exact rfl); (case w3 => exact rfl))
  | ((with_reducible refine' wCallB (by assumption) ?w1 ?w2 ?w3 ?_); (case w1 => constructor); (case w2 => exact rfl); (case w3 => exact rfl))
  | ((with_reducible refine' wCallV (by assumption) ?w1 ?w2 ?w3 ?w4 ?w5 ?_); (case w1 => walk_at "at"); (case w2 => exact rfl); (case w3 => exact rfl); (case w4 => decide +kernel); (case w5 => exact rfl))
  | ((with_reducible refine' wB (by assumption) ?w1 ?w2 ?_); (case w1 => constructor); (case w2 => exact rfl))
  | ((with_reducible refine' wMost (by assumption) ?w1 ?_); (case w1 => exact rfl))
  | ((with_reducible refine' wG (by assumption) ?w1 ?w2 ?_); (case w1 => constructor); (case w2 => exact rfl))
  | ((with_reducible refine' ST_cmpX (by assumption) ?w1 ?w2 ?_); (case w1 => exact rfl); (case w2 => exact rfl))
  | ((with_reducible refine' ST_cmp ?w1 ?_); (case w1 => exact rfl))
  | ((with_reducible refine' ST_chain ?w1 ?_); (case w1 => exact rfl))
  | with_reducible (first | refine ST_not ?_ | refine ST_and ?_ | refine ST_or ?_ | refine ST_and3 ?_)
  | (refine' ST_val ?w1 ?_; (case w1 => intro _; exact rfl))
  | with_reducible refine SL_nil ?_
  | ((with_reducible refine' SL_cons ?w1 ?_); (case w1 => exact rfl))
  | with_reducible (first | refine b_add ?_ | refine b_sub ?_)
  | ((with_reducible refine' b_mul ?w1 ?_); (case w1 => first | exact .of_right (by decide +kernel) | exact .of_left (by decide +kernel) | assumption))
  | ((with_reducible refine' b_fdivp ?w1 ?w2 ?_); (case w1 => first | omega | exact Int.pow_pos (by decide) | assumption); (case w2 => first | assumption | exact ten_big (by decide +kernel) trivial | exact pow_big (by omega) | exact pow2_big (by omega)))
  | ((with_reducible refine' b_modp ?w1 ?_); (case w1 => first | omega | exact Int.pow_pos (by decide) | assumption))
  | ((with_reducible refine' b_pow10 ?w1 ?w2 ?_); (case w1 => omega); (case w2 => omega))
  | ((with_reducible refine' b_pow2 ?w1 ?w2 ?_); (case w1 => omega); (case w2 => omega))
  | ((with_reducible refine' b_lsh1 ?w1 ?w2 ?_); (case w1 => omega); (case w2 => omega))
  | with_reducible (first | refine b_and ?_ | refine b_or ?_ | refine b_xor ?_ | refine b_subb ?_ | refine i_add ?_)
  | ((with_reducible refine' i_mul ?w1 ?_); (case w1 => first | exact .of_right (by decide +kernel) | exact .of_left (by decide +kernel) | assumption))
  | with_reducible (first | refine c_lt ?_ | refine c_le ?_ | refine c_gt ?_ | refine c_ge ?_ | refine c_eq ?_ | refine c_ne ?_ | refine c_eqs ?_ | refine c_nes ?_ | refine c_lts ?_ | refine c_gts ?_ | refine c_eqb ?_ | refine c_neb ?_ | refine cd_eq ?_ | refine cd_ne ?_ | refine cd_eqs ?_ | refine cd_nes ?_ | refine cd_eqb ?_ | refine cd_neb ?_)
  | ((with_reducible refine' cd_dat true ?w1 ?_); (case w1 => decide +kernel))
  | ((with_reducible refine' cd_dat false ?w1 ?_); (case w1 => decide +kernel))
  | with_reducible (first | refine k_absn ?_ | refine k_mini ?_ | refine k_maxi ?_ | refine k_isiS ?_ | refine k_isiI ?_ | refine k_isiT ?_)
  | ((with_reducible refine' k_isi ?w1 ?_); (case w1 => exact rfl))
  | with_reducible (first | refine at_tup0 ?_ | refine at_tup1 ?_ | refine at_box0 ?_ | refine at_box1 ?_ | refine Br_t ?_ | refine Br_f ?_)
  | ((with_reducible refine' Br_bt ?w1 ?_); (case w1 => decide +kernel))
  | ((with_reducible refine' Br_bf ?w1 ?_); (case w1 => decide +kernel))
  | with_reducible refine Br_nn ?_
  | refine ⟨Nat.le_of_ble_eq_true rfl, ?_⟩
  | refine ⟨_, _, _, rfl, rfl, ?_⟩
  | refine ⟨_, rfl, (rfl : _ = _), ?_⟩
  | refine ⟨_, rfl, ?_⟩
  | refine ⟨_, .inl rfl, rfl, ?_⟩
  | refine ⟨_, .inr rfl, rfl, ?_⟩
  | fail "w")
local macro_rules | `(tactic| walk_at "w") => `(tactic| first
  | with_reducible refine SS_cons ?_
  | walk_at "v")
section TextPA
theorem vs0 {α : Type} {P : List α → Prop} (h : P []) (l : List α) (e : l.length = 0) : P l := by cases l with | nil => exact h | cons a l => cases e
theorem vsC {α : Type} {n : Nat} {P : List α → Prop} (h : ∀ a (l : List α), l.length = n → P (a :: l)) (l : List α) (e : l.length = n + 1) : P l := by cases l with | nil => cases e | cons a l => exact h a l (Nat.succ.inj e)
theorem vs1 {α : Type} {P : List α → Prop} (h : ∀ a, P [a]) : ∀ l : List α, l.length = 1 → P l := vsC fun a => vs0 (h a)
theorem vs2 {α : Type} {P : List α → Prop} (h : ∀ a b, P [a, b]) : ∀ l : List α, l.length = 2 → P l := vsC fun a => vs1 (h a)
theorem vs3 {α : Type} {P : List α → Prop} (h : ∀ a b c, P [a, b, c]) : ∀ l : List α, l.length = 3 → P l := vsC fun a => vs2 (h a)
theorem vs4 {α : Type} {P : List α → Prop} (h : ∀ a b c d, P [a, b, c, d]) : ∀ l : List α, l.length = 4 → P l := vsC fun a => vs3 (h a)
theorem vs5 {α : Type} {P : List α → Prop} (h : ∀ a b c d e, P [a, b, c, d, e]) : ∀ l : List α, l.length = 5 → P l := vsC fun a => vs4 (h a)
theorem vs6 {α : Type} {P : List α → Prop} (h : ∀ a b c d e f, P [a, b, c, d, e, f]) : ∀ l : List α, l.length = 6 → P l := vsC fun a => vs5 (h a)
section
variable {c : Cx} {ρ : Store} {ω : Om} {K : PV → Om → Prop} {X : Str → Om → Prop} {N : Store → Om → Prop} {R : PV → Om → Prop} {KB : Bool → Om → Prop} {KL : List PV → Om → Prop}
theorem J_def (O : c.Ok) {a : Addr} {name qual : Str} {params : Arguments} {body : List Stmt} {scope : Scope} {dV kV doc pm cdv ct oc : Value} {an od : Option Addr} {osl : Array (Option Value)} (xs ys vs : List Str) {ps : List PV} (ρ0 : Store) (n : Nat)
    (hdp : n + 1 ≤ c.d)
    (ho : (hd.heap_39 c.w.params).lookup a = some ⟨oc, od, .func (fnX name qual params body scope [] dV kV doc pm an cdv ct), osl⟩) (hcd : codeIn (hd.heap_39 c.w.params) cdv qual = true)
    (hbind : ∀ vs : List Value, vs.length = xs.length → bindArgs (fnX name qual params body scope [] dV kV doc pm an cdv ct) ⟨vs, []⟩ = pure (xs.zip vs))
    (hvs : xs ++ ys = vs) (hsc : scopeOk scope vs = true) (hps : ps.length = xs.length) (hρ : (ps.map some ++ ys.map fun _ => none) = ρ0)
    (h : ∀ c' : Cx, Fx c' scope vs n → SS c' (execs body c'.env) ρ0 ω (fun _ ω' => K .non ω') K X) : CallJ c (.adr a) ps ρ ω K X := by
  subst hvs hρ
  exact CallJ_def O ho hcd hbind hsc (by omega) hps fun c' O' hd' hcs hv => h c' ⟨O', hcs, hv, by omega⟩
noncomputable def gi (ρ : Store) (i : Nat) : Int := match ρ.get i with
  | some (.int b) => b
  | _ => 0
theorem SS.mono {t : Sem Flow} {N' : Store → Om → Prop} {R' : PV → Om → Prop} {X' : Str → Om → Prop} (h : SS c t ρ ω N R X) (h1 : ∀ ρ' ω', N ρ' ω' → N' ρ' ω') (h2 : ∀ v ω', R v ω' → R' v ω') (h3 : ∀ v ω', X v ω' → X' v ω') : SS c t ρ ω N' R' X' :=
  fun s Q E f hN hR hE => h s Q E f (fun ρ' ω' s' n => hN ρ' ω' s' (h1 _ _ n)) (fun pv v ω' s' r => hR pv v ω' s' (h2 _ _ r)) fun code ea ω' s' x => hE code ea ω' s' (h3 _ _ x)
/-- a statement, and what stands behind it -/
theorem SS_mid {st : Stmt} {rest : List Stmt} (I : Store → Om → Prop) (h : SS c (exec st c.env) ρ ω I R X) (h2 : ∀ ρ' ω', I ρ' ω' → SS c (execs rest c.env) ρ' ω' N R X) : SS c (execs (st :: rest) c.env) ρ ω N R X :=
  SS_cons (h.mono h2 (fun _ _ x => x) fun _ _ x => x)
theorem J_fig (O : c.Ok) (hd : 1 ≤ c.d) {n : Int} (h0 : 0 ≤ n) (hn : n < 10 ^ 300) (h : ∀ k, FigR n k → K (.int k) ω) : CallJ c (.adr 44) [.int n] ρ ω K X := by
  refine' J_def O ["number"] ["many", "bound"] ["number", "many", "bound"] [some (.int n), none, none] 0 hd ?h1 ?h2 ?h3 rfl ?h4 rfl rfl ?h5
  case h1 => exact rfl
  case h2 => exact rfl
  case h3 => exact vs1 fun _ => rfl
  case h4 => decide +kernel
  intro c' F
  walk_at "w"
  repeat' walk_at "w"
  refine S_while (fun ρ' ω' => ω = ω' ∧ ∃ k : Nat, ρ' = [some (.int n), some (.int k), some (.int (10 ^ k))] ∧ 1 ≤ k ∧ (k = 1 ∨ 10 ^ (k - 1) ≤ n)) (fun ρ' _ => (n + 1 - gi ρ' 2).toNat) ⟨rfl, 1, rfl, by omega, .inl rfl⟩ ?_
  rintro _ _ ⟨rfl, k, rfl, h1, h2⟩
  repeat' walk_at "w"
  refine Br_dec (fun h3 => ?_) (fun h3 => ?_)
  · repeat' walk_at "w"
    refine ⟨⟨rfl, k + 1, ?_, by omega, .inr h3⟩, ?_⟩
    · show [some (PV.int n), some (.int (k + 1 : Int)), some (.int (10 ^ k * 10))] = _
      rw [Int.pow_succ]; rfl
    · show (n + 1 - 10 ^ k * 10).toNat < (n + 1 - 10 ^ k).toNat
      have : (0 : Int) < 10 ^ k := Int.pow_pos (by decide)
      omega
  · repeat' walk_at "w"
    exact h k ⟨h1, by omega, h2⟩
end
end TextPA
section TextPB
section
variable {c : Cx} {ρ : Store} {ω : Om} {K : PV → Om → Prop} {X : Str → Om → Prop} {N : Store → Om → Prop} {R : PV → Om → Prop} {KB : Bool → Om → Prop} {KL : List PV → Om → Prop}
theorem J_rnd (O : c.Ok) (hd : 2 ≤ c.d) {n p : Int} (h0 : 0 ≤ n) (hn : n < 10 ^ 300) (h : K (.int (rnd n p)) ω) : CallJ c (.adr 51) [.int n, .int p] ρ ω K X := by
  refine' J_def O ["number", "places"] ["unit", "found", "rest"] ["number", "places", "unit", "found", "rest"] [some (.int n), some (.int p), none, none, none] 1 hd ?h1 ?h2 ?h3 rfl ?h4 rfl rfl ?h5
  case h1 => exact rfl
  case h2 => exact rfl
  case h3 => exact vs2 fun _ _ => rfl
  case h4 => decide +kernel
  intro c' F
  repeat' walk_at "w"
  refine Br_dec (fun h1 => ?_) (fun h1 => ?_)
  · repeat' walk_at "w"
    rw [rnd, if_pos h1] at h; exact h
  repeat' walk_at "w"
  refine J_fig F.ok F.dep h0 hn fun k hk => ?_
  repeat' walk_at "w"
  have hu := pow_pos10 p.toNat
  refine Br_dec (fun h2 => ?_) (fun h2 => ?_)
  · repeat' walk_at "w"
    have h3 : (10 : Int) ^ k * 100 ≤ 10 ^ p.toNat := by
      have := pow_mono (show k + 2 ≤ p.toNat by omega)
      rw [Int.pow_add] at this; exact this
    have := hk.lt
    have e1 : n / 10 ^ p.toNat = 0 := Int.ediv_eq_zero_of_lt h0 (by omega)
    have e2 : n % 10 ^ p.toNat = n := Int.emod_eq_of_lt h0 (by omega)
    rw [rnd, if_neg h1, e1, e2, if_neg (by omega)] at h
    exact h
  have hk2 : k ≤ 301 := by
    rcases hk.le with h | h
    · omega
    · have h3 : k - 1 < 300 := by
        refine Nat.lt_of_not_le fun h4 => ?_
        have := pow_mono h4
        omega
      omega
  repeat' walk_at "w"
  refine Br_dec (fun h3 => ?_) (fun h3 => ?_)
  · repeat' walk_at "w"
    rw [rnd, if_neg h1, if_pos (.inl h3)] at h; exact h
  repeat' walk_at "w"
  refine Br_dec (fun h4 => ?_) (fun h4 => ?_)
  · repeat' walk_at "w"
    refine Br_dec (fun h5 => ?_) (fun h5 => ?_)
    · repeat' walk_at "w"
      rw [rnd, if_neg h1, if_pos (.inr ⟨h4, h5⟩)] at h; exact h
    · repeat' walk_at "w"
      rw [rnd, if_neg h1, if_neg (by omega)] at h; exact h
  · repeat' walk_at "w"
    rw [rnd, if_neg h1, if_neg (by omega)] at h; exact h
end
end TextPB
section TextPC
section
variable {c : Cx} {ρ : Store} {ω : Om} {K : PV → Om → Prop} {X : Str → Om → Prop} {N : Store → Om → Prop} {R : PV → Om → Prop} {KB : Bool → Om → Prop} {KL : List PV → Om → Prop}
theorem pow_le300 {k : Nat} (h : k ≤ 300) {n : Int} (hn : n < 10 ^ k) : n < 10 ^ 300 := Int.lt_of_lt_of_le hn (pow_mono h)
theorem J_made (O : c.Ok) (hd : 10 ≤ c.d) {m e d : Int} (k : Nat) (hm : (m.natAbs : Int) < 10 ^ k) (he : -90 ≤ e) (hek : e + k ≤ 95) (h1d : 1 ≤ d) (hd1 : d ≤ 100)
    (h : ∀ m' e', MadeR m e d m' e' → K (.tup [.int m', .int e']) ω) : CallJ c (.adr 58) [.int m, .int e, .int d] ρ ω K X := by
  refine' J_def O ["coefficient", "exponent", "digits"] ["size", "more", "first"] ["coefficient", "exponent", "digits", "size", "more", "first"] [some (.int m), some (.int e), some (.int d), none, none, none] 9 hd ?h1 ?h2 ?h3 rfl ?h4 rfl rfl ?h5
  case h1 => exact rfl
  case h2 => exact rfl
  case h3 => exact vs3 fun _ _ _ => rfl
  case h4 => decide +kernel
  intro c' F
  have hn : (0 : Int) ≤ m.natAbs := by omega
  have hbig : (m.natAbs : Int) < 10 ^ 300 := pow_le300 (by omega) hm
  repeat' walk_at "w"
  refine J_fig F.ok (by have := F.dep; omega) hn hbig fun f hf => ?_
  repeat' walk_at "v"
  refine SS_mid (fun ρ' ω' => ω = ω' ∧ ∃ s x y : Int, ρ' = [some (.int m), some (.int x), some (.int d), some (.int s), some (.int y), none] ∧ Mi m.natAbs e d s x) ?_ ?_
  · repeat' walk_at "w"
    refine Br_dec (fun h3 => ?_) (fun h3 => ?_)
    · repeat' walk_at "w"
      refine J_rnd F.ok (by have := F.dep; omega) hn hbig ?_
      repeat' walk_at "w"
      exact ⟨rfl, _, _, _, rfl, Mi.round hn hf rfl h3 h1d⟩
    · repeat' walk_at "w"
      exact ⟨rfl, _, _, _, rfl, Mi.start hn⟩
  rintro _ _ ⟨rfl, s, x, y, rfl, hi⟩
  repeat' walk_at "w"
  refine Br_dec (fun h4 => ?_) (fun h4 => ?_)
  · repeat' walk_at "w"
    refine h 0 0 ⟨.inl ⟨rfl, rfl⟩, fun s0 j a b g => ?_⟩
    have := hi.eq s0 j a b g
    rw [h4, Int.zero_mul] at this
    rw [← this] at a
    have h5 : (0 : Int) < s0 := by omega
    have := Int.mul_pos h5 (pow_pos10 j)
    omega
  repeat' walk_at "v"
  have hs0 : 0 < s := by have := hi.s0; omega
  refine SS_mid (fun ρ' ω' => ω = ω' ∧ ∃ s x : Int, ρ' = [some (.int m), some (.int x), some (.int d), some (.int s), some (.int y), none] ∧ Mi m.natAbs e d s x ∧ 0 < s ∧ s % 10 ≠ 0) ?_ ?_
  · refine S_while (fun ρ' ω' => ω = ω' ∧ ∃ s x : Int, ρ' = [some (.int m), some (.int x), some (.int d), some (.int s), some (.int y), none] ∧ Mi m.natAbs e d s x ∧ 0 < s) (fun ρ' _ => (gi ρ' 3).toNat) ⟨rfl, s, x, rfl, hi, hs0⟩ ?_
    rintro _ _ ⟨rfl, s, x, rfl, hi, hs0⟩
    repeat' walk_at "w"
    refine Br_dec (fun h5 => ?_) (fun h5 => ?_)
    · repeat' walk_at "w"
      refine ⟨⟨rfl, _, _, rfl, hi.step h5, by omega⟩, ?_⟩
      show (s / 10).toNat < s.toNat
      omega
    · exact ⟨rfl, s, x, rfl, hi, hs0, h5⟩
  rintro _ _ ⟨rfl, s, x, rfl, hi, hs0, h5⟩
  repeat' walk_at "w"
  have hsb : s < 10 ^ 300 := by
    have h6 := hi.le
    have h7 : s * 1 ≤ s * 10 ^ (x - e).toNat := Int.mul_le_mul_of_nonneg_left (by have := pow_pos10 (x - e).toNat; omega) (by omega)
    have h8 : (10 : Int) ^ (k + 1) = 10 ^ k * 10 := Int.pow_succ _ _
    exact pow_le300 (k := k + 1) (by omega) (by omega)
  refine J_fig F.ok (by have := F.dep; omega) hi.s0 hsb fun f' hf' => ?_
  have hfirst := hi.first hs0 hm hf'
  have h1f := hf'.one
  have hex := hi.ex
  repeat' walk_at "w"
  refine Br_dec (fun h6 => by omega) (fun h6 => ?_)
  repeat' walk_at "w"
  refine Br_dec (fun h7 => by omega) (fun h7 => ?_)
  repeat' walk_at "w"
  have hfin := h _ _ (hi.made h5)
  refine Br_dec (fun h8 => ?_) (fun h8 => ?_)
  · rw [if_pos h8] at hfin
    repeat' walk_at "w"
    exact hfin
  · rw [if_neg h8] at hfin
    repeat' walk_at "w"
    exact hfin
end
end TextPC
section TextPD
theorem bits_le {a : Int} (h : a.natAbs < 2 ^ 64) : Builtin.Int.intBits a ≤ 64 := by
  unfold Builtin.Int.intBits
  by_cases h0 : a = 0
  · subst h0; decide
  · rw [if_neg (by simpa using h0)]
    have h1 : a.natAbs ≠ 0 := by omega
    have := (Nat.log2_lt h1).mpr h
    omega
theorem mulokL {a b : Int} (h : a.natAbs < 2 ^ 64) : IntMulOk a b := .of_left (bits_le h)
theorem mulokR {a b : Int} (h : b.natAbs < 2 ^ 64) : IntMulOk a b := .of_right (bits_le h)
noncomputable def nearM (m e : Int) : Int := if 0 ≤ e then m * 10 ^ e.toNat else if m < 0 then -(rnd m.natAbs (-e)) else rnd m.natAbs (-e)
noncomputable def fitsM (n b : Int) : Bool := decide (-(2 ^ (b - 1).toNat) ≤ n) && decide (n < 2 ^ (b - 1).toNat)
noncomputable def Va.Ok : Va → Prop
  | .i n => n.natAbs < 2 ^ 20
  | .t m e => m.natAbs < 1000 ∧ -6 ≤ e ∧ e ≤ 8
  | .s => True
noncomputable def Va.near : Va → Int
  | .i n => n
  | .t m e => nearM m e
  | .s => 0
noncomputable def Va.m : Va → Int
  | .i n => n
  | .t m _ => m
  | .s => 0
noncomputable def Va.e : Va → Int
  | .i _ => 0
  | .t _ e => e
  | .s => 0
section
variable {c : Cx} {ρ : Store} {ω : Om} {K : PV → Om → Prop} {X : Str → Om → Prop} {N : Store → Om → Prop} {R : PV → Om → Prop} {KB : Bool → Om → Prop} {KL : List PV → Om → Prop}
theorem J_near (O : c.Ok) (hd : 10 ≤ c.d) {m e : Int} (hm : m.natAbs < 2 ^ 64) (he : e ≤ 1000) (h : K (.int (nearM m e)) ω) : CallJ c (.adr 65) [.tup [.int m, .int e]] ρ ω K X := by
  refine' J_def O ["value"] ["coefficient", "exponent", "size"] ["value", "coefficient", "exponent", "size"] [some (.tup [.int m, .int e]), none, none, none] 9 (by omega) ?h1 ?h2 ?h3 rfl ?h4 rfl rfl ?h5
  case h1 => exact rfl
  case h2 => exact rfl
  case h3 => exact vs1 fun _ => rfl
  case h4 => decide +kernel
  intro c' F
  have hdF := F.dep
  repeat' walk_at "w"
  refine Br_dec (fun h1 => ?_) (fun h1 => ?_)
  · repeat' walk_at "w"
    refine b_mul (mulokL hm) ?_
    rw [nearM, if_pos h1] at h; exact h
  rw [nearM, if_neg (by omega)] at h
  repeat' walk_at "w"
  refine J_rnd F.ok (by omega) (by omega) ?_ ?_
  · exact pow_le300 (k := 20) (by decide) (by omega)
  repeat' walk_at "w"
  refine Br_dec (fun h2 => ?_) (fun h2 => ?_)
  · rw [if_pos h2] at h
    repeat' walk_at "w"
    exact h
  · rw [if_neg h2] at h
    repeat' walk_at "w"
    exact h
theorem J_fits (O : c.Ok) (hd : 1 ≤ c.d) {n b : Int} (h1 : 1 ≤ b) (h2 : b ≤ 64) (h : K (.bool (fitsM n b)) ω) : CallJ c (.adr 72) [.int n, .int b] ρ ω K X := by
  refine' J_def O ["number", "bits"] [] ["number", "bits"] [some (.int n), some (.int b)] 0 (by omega) ?h1 ?h2 ?h3 rfl ?h4 rfl rfl ?h5
  case h1 => exact rfl
  case h2 => exact rfl
  case h3 => exact vs2 fun _ _ => rfl
  case h4 => decide +kernel
  intro c' F
  have hdF := F.dep
  repeat' walk_at "w"
  unfold fitsM at h
  refine Br_dec (fun h3 => ?_) (fun h3 => ?_)
  · repeat' walk_at "w"
    rw [decide_eq_true h3, Bool.true_and] at h
    exact h
  · rw [decide_eq_false h3, Bool.false_and] at h
    exact h
end
end TextPD
section TextPE
section
variable {c : Cx} {ρ : Store} {ω : Om} {K : PV → Om → Prop} {X : Str → Om → Prop} {N : Store → Om → Prop} {R : PV → Om → Prop} {KB : Bool → Om → Prop} {KL : List PV → Om → Prop}
/-- what whole_of answers -/
noncomputable def WholeR (v : Va) (b : Int) (K : Int → Prop) (X : Str → Prop) : Prop := match v with
  | .s => X "TM"
  | v => if fitsM v.near b then K v.near else X "OV"
theorem J_whole_of (O : c.Ok) (hd : 12 ≤ c.d) {v : Va} {b : Int} (hv : v.Ok) (h1 : 1 ≤ b) (h2 : b ≤ 64) (h : WholeR v b (fun n => K (.int n) ω) (fun x => X x ω)) : CallJ c (.adr 79) [v.pv, .int b] ρ ω K X := by
  refine' J_def O ["value", "bits"] ["number"] ["value", "bits", "number"] [some (v.pv), some (.int b), none] 11 (by omega) ?h1 ?h2 ?h3 rfl ?h4 rfl rfl ?h5
  case h1 => exact rfl
  case h2 => exact rfl
  case h3 => exact vs2 fun _ _ => rfl
  case h4 => decide +kernel
  intro c' F
  have hdF := F.dep
  cases v with
  | s =>
    dsimp only [Va.pv]
    repeat' walk_at "w"
    exact h
  | i n =>
    dsimp only [Va.pv]
    repeat' walk_at "w"
    refine J_fits F.ok (by omega) h1 h2 ⟨_, rfl, ?_⟩
    have h : if fitsM n b then K (.int n) ω else X "OV" ω := h
    cases h3 : fitsM n b with
    | true =>
      rw [h3] at h
      repeat' walk_at "w"
      exact h
    | false =>
      rw [h3] at h
      repeat' walk_at "w"
      exact h
  | t m e =>
    dsimp only [Va.pv]
    repeat' walk_at "w"
    refine J_near F.ok (by omega) (Nat.lt_trans hv.1 (by decide)) (by have := hv.2; omega) ?_
    repeat' walk_at "w"
    refine J_fits F.ok (by omega) h1 h2 ⟨_, rfl, ?_⟩
    have h : if fitsM (nearM m e) b then K (.int (nearM m e)) ω else X "OV" ω := h
    cases h3 : fitsM (nearM m e) b with
    | true =>
      rw [h3] at h
      repeat' walk_at "w"
      exact h
    | false =>
      rw [h3] at h
      repeat' walk_at "w"
      exact h
noncomputable def DecR (v : Va) (d : Int) (K : Int → Int → Prop) (X : Str → Prop) : Prop := match v with
  | .s => X "TM"
  | v => ∀ m' e', MadeR v.m v.e d m' e' → K m' e'
theorem J_decimal_of (O : c.Ok) (hd : 12 ≤ c.d) {v : Va} {d : Int} (hv : v.Ok) (h1 : 1 ≤ d) (h2 : d ≤ 100) (h : DecR v d (fun m e => K (.tup [.int m, .int e]) ω) (fun x => X x ω)) : CallJ c (.adr 86) [v.pv, .int d] ρ ω K X := by
  refine' J_def O ["value", "digits"] [] ["value", "digits"] [some (v.pv), some (.int d)] 11 (by omega) ?h1 ?h2 ?h3 rfl ?h4 rfl rfl ?h5
  case h1 => exact rfl
  case h2 => exact rfl
  case h3 => exact vs2 fun _ _ => rfl
  case h4 => decide +kernel
  intro c' F
  have hdF := F.dep
  cases v with
  | s =>
    dsimp only [Va.pv]
    repeat' walk_at "w"
    exact h
  | i n =>
    dsimp only [Va.pv]
    repeat' walk_at "w"
    unfold Va.Ok at hv
    exact J_made F.ok (by omega) 7 (by omega) (by omega) (by omega) h1 h2 h
  | t m e =>
    dsimp only [Va.pv]
    repeat' walk_at "w"
    unfold Va.Ok at hv
    exact J_made F.ok (by omega) 3 (by omega) (by omega) (by omega) h1 h2 h
noncomputable def IsWR (v : Va) (K : Bool → Prop) (X : Str → Prop) : Prop := match v with
  | .s => X "TM"
  | v => K v.isI
theorem J_is_whole (O : c.Ok) (hd : 10 ≤ c.d) {v : Va} (h : IsWR v (fun b => K (.bool b) ω) (fun x => X x ω)) : CallJ c (.adr 164) [v.pv] ρ ω K X := by
  refine' J_def O ["value"] [] ["value"] [some (v.pv)] 9 (by omega) ?h1 ?h2 ?h3 rfl ?h4 rfl rfl ?h5
  case h1 => exact rfl
  case h2 => exact rfl
  case h3 => exact vs1 fun _ => rfl
  case h4 => decide +kernel
  intro c' F
  have hdF := F.dep
  cases v with
  | s =>
    dsimp only [Va.pv]
    repeat' walk_at "w"
    exact h
  | i n =>
    dsimp only [Va.pv]
    repeat' walk_at "w"
    exact h
  | t m e =>
    dsimp only [Va.pv]
    repeat' walk_at "w"
    exact h
theorem J_d_negated (O : c.Ok) (hd : 1 ≤ c.d) {m e : Int} (h : K (.tup [.int (-m), .int e]) ω) : CallJ c (.adr 94) [.tup [.int m, .int e]] ρ ω K X := by
  refine' J_def O ["a"] [] ["a"] [some (.tup [.int m, .int e])] 0 (by omega) ?h1 ?h2 ?h3 rfl ?h4 rfl rfl ?h5
  case h1 => exact rfl
  case h2 => exact rfl
  case h3 => exact vs1 fun _ => rfl
  case h4 => decide +kernel
  intro c' F
  have hdF := F.dep
  repeat' walk_at "w"
  rw [Int.zero_sub]; exact h
theorem J_alike (O : c.Ok) (hd : 10 ≤ c.d) {m e m' e' : Int} (hm : m.natAbs < 2 ^ 64) (hm' : m'.natAbs < 2 ^ 64) (he : -1000 ≤ e ∧ e ≤ 1000) (he' : -1000 ≤ e' ∧ e' ≤ 1000)
    (h : K (.tup [.int (m * 10 ^ (e - min e e').toNat), .int (m' * 10 ^ (e' - min e e').toNat), .int (min e e')]) ω) : CallJ c (.adr 101) [.tup [.int m, .int e], .tup [.int m', .int e']] ρ ω K X := by
  refine' J_def O ["a", "b"] ["least"] ["a", "b", "least"] [some (.tup [.int m, .int e]), some (.tup [.int m', .int e']), none] 9 (by omega) ?h1 ?h2 ?h3 rfl ?h4 rfl rfl ?h5
  case h1 => exact rfl
  case h2 => exact rfl
  case h3 => exact vs2 fun _ _ => rfl
  case h4 => decide +kernel
  intro c' F
  have hdF := F.dep
  repeat' walk_at "w"
  refine b_mul (mulokL hm) ?_
  repeat' walk_at "w"
  refine b_mul (mulokL hm') ?_
  repeat' walk_at "w"
  exact h
end
end TextPE
section TextPF
section
variable {c : Cx} {ρ : Store} {ω : Om} {K : PV → Om → Prop} {X : Str → Om → Prop} {N : Store → Om → Prop} {R : PV → Om → Prop} {KB : Bool → Om → Prop} {KL : List PV → Om → Prop}
/-- small decimals -/
structure Sm (m e : Int) : Prop where
  m : m.natAbs < 10 ^ 8
  e1 : -20 ≤ e
  e2 : e ≤ 20
theorem mul_lt_pow {a b : Int} {i j : Nat} (h1 : (a.natAbs : Int) < 10 ^ i) (h2 : (b.natAbs : Int) ≤ 10 ^ j) : ((a * b).natAbs : Int) < 10 ^ (i + j) := by
  rw [Int.natAbs_mul, Int.pow_add, Int.natCast_mul]
  have hj := pow_pos10 j
  have ha := pow_pos10 i
  have h3 : (a.natAbs : Int) * b.natAbs ≤ a.natAbs * 10 ^ j := Int.mul_le_mul_of_nonneg_left h2 (by omega)
  have h4 : (a.natAbs : Int) * 10 ^ j < 10 ^ i * 10 ^ j := Int.mul_lt_mul_of_pos_right h1 hj
  omega
theorem natAbs_pow10 (j : Nat) : (((10 : Int) ^ j).natAbs : Int) = 10 ^ j := by
  have := pow_pos10 j
  omega
theorem lin_bound {m e : Int} (h : Sm m e) {f : Int} (hf : f ≤ e) (hf' : -20 ≤ f) : ((m * 10 ^ (e - f).toNat).natAbs : Int) < 10 ^ 48 := by
  have h1 := h.m
  have := mul_lt_pow (a := m) (b := 10 ^ (e - f).toNat) (i := 8) (j := 40) (by omega) (by rw [natAbs_pow10]; exact pow_mono (by have := h.e2; omega))
  exact this
theorem J_d_add (O : c.Ok) (hd : 12 ≤ c.d) {m e m' e' d : Int} (h1 : Sm m e) (h2 : Sm m' e') (hd1 : 1 ≤ d) (hd2 : d ≤ 100)
    (h : ∀ r x, K (.tup [.int r, .int x]) ω) : CallJ c (.adr 108) [.tup [.int m, .int e], .tup [.int m', .int e'], .int d] ρ ω K X := by
  refine' J_def O ["a", "b", "digits"] ["one", "other", "exponent"] ["a", "b", "digits", "one", "other", "exponent"] [some (.tup [.int m, .int e]), some (.tup [.int m', .int e']), some (.int d), none, none, none] 11 (by omega) ?h1 ?h2 ?h3 rfl ?h4 rfl rfl ?h5
  case h1 => exact rfl
  case h2 => exact rfl
  case h3 => exact vs3 fun _ _ _ => rfl
  case h4 => decide +kernel
  intro c' F
  have hdF := F.dep
  have b1 := h1.e1; have b2 := h1.e2; have b3 := h2.e1; have b4 := h2.e2
  repeat' walk_at "w"
  refine J_alike F.ok (by omega) (Nat.lt_trans h1.m (by decide)) (Nat.lt_trans h2.m (by decide)) (by omega) (by omega) ?_
  repeat' walk_at "w"
  have l1 := lin_bound h1 (f := min e e') (by omega) (by omega)
  have l2 := lin_bound h2 (f := min e e') (by omega) (by omega)
  exact J_made F.ok (by omega) 49 (by omega) (by omega) (by omega) hd1 hd2 fun _ _ _ => h _ _
theorem J_d_sub (O : c.Ok) (hd : 14 ≤ c.d) {m e m' e' d : Int} (h1 : Sm m e) (h2 : Sm m' e') (hd1 : 1 ≤ d) (hd2 : d ≤ 100)
    (h : ∀ r x, K (.tup [.int r, .int x]) ω) : CallJ c (.adr 115) [.tup [.int m, .int e], .tup [.int m', .int e'], .int d] ρ ω K X := by
  refine' J_def O ["a", "b", "digits"] [] ["a", "b", "digits"] [some (.tup [.int m, .int e]), some (.tup [.int m', .int e']), some (.int d)] 13 (by omega) ?h1 ?h2 ?h3 rfl ?h4 rfl rfl ?h5
  case h1 => exact rfl
  case h2 => exact rfl
  case h3 => exact vs3 fun _ _ _ => rfl
  case h4 => decide +kernel
  intro c' F
  have hdF := F.dep
  repeat' walk_at "w"
  refine J_d_negated F.ok (by omega) ?_
  repeat' walk_at "w"
  exact J_d_add F.ok (by omega) h1 ⟨by rw [Int.natAbs_neg]; exact h2.m, h2.e1, h2.e2⟩ hd1 hd2 h
theorem J_d_mul (O : c.Ok) (hd : 12 ≤ c.d) {m e m' e' d : Int} (h1 : Sm m e) (h2 : Sm m' e') (hd1 : 1 ≤ d) (hd2 : d ≤ 100)
    (h : ∀ r x, K (.tup [.int r, .int x]) ω) : CallJ c (.adr 122) [.tup [.int m, .int e], .tup [.int m', .int e'], .int d] ρ ω K X := by
  refine' J_def O ["a", "b", "digits"] [] ["a", "b", "digits"] [some (.tup [.int m, .int e]), some (.tup [.int m', .int e']), some (.int d)] 11 (by omega) ?h1 ?h2 ?h3 rfl ?h4 rfl rfl ?h5
  case h1 => exact rfl
  case h2 => exact rfl
  case h3 => exact vs3 fun _ _ _ => rfl
  case h4 => decide +kernel
  intro c' F
  have hdF := F.dep
  have b1 := h1.e1; have b2 := h1.e2; have b3 := h2.e1; have b4 := h2.e2; have b5 := h1.m; have b6 := h2.m
  repeat' walk_at "w"
  refine b_mul (mulokL (Nat.lt_trans b5 (by decide))) ?_
  repeat' walk_at "w"
  exact J_made F.ok (by omega) 16 (mul_lt_pow (i := 8) (j := 8) (by omega) (by omega)) (by omega) (by omega) hd1 hd2 fun _ _ _ => h _ _
theorem J_with_rest (O : c.Ok) (hd : 1 ≤ c.d) {m r e : Int} (h : K (.tup [.int (if r = 0 then m else m * 10 + 1), .int (if r = 0 then e else e - 1)]) ω) : CallJ c (.adr 129) [.int m, .int r, .int e] ρ ω K X := by
  refine' J_def O ["whole", "rest", "exponent"] [] ["whole", "rest", "exponent"] [some (.int m), some (.int r), some (.int e)] 0 (by omega) ?h1 ?h2 ?h3 rfl ?h4 rfl rfl ?h5
  case h1 => exact rfl
  case h2 => exact rfl
  case h3 => exact vs3 fun _ _ _ => rfl
  case h4 => decide +kernel
  intro c' F
  have hdF := F.dep
  repeat' walk_at "w"
  refine Br_dec (fun h1 => ?_) (fun h1 => ?_)
  · rw [if_pos h1, if_pos h1] at h
    repeat' walk_at "w"
    exact h
  · rw [if_neg h1, if_neg h1] at h
    repeat' walk_at "w"
    exact h
/-- the quotient's coefficient, ahead of rounding, for f places more -/
noncomputable def divS (m m' : Int) (p : Int) : Int := (m.natAbs : Int) * 10 ^ p.toNat
theorem J_d_div (O : c.Ok) (hd : 14 ≤ c.d) {m e m' e' d : Int} (h1 : Sm m e) (h2 : Sm m' e') (hd1 : 1 ≤ d) (hd2 : d ≤ 20)
    (hz : m' = 0 → X "DZ" ω)
    (h : m' ≠ 0 → ∀ f1 f2 : Nat, FigR m'.natAbs f1 → FigR m.natAbs f2 → ∀ p w x : Int, p = d + 2 + max 0 ((f1 : Int) - f2) → w = divS m m' p / m'.natAbs → x = e - e' - p → ∀ w' x', (w' = if divS m m' p % m'.natAbs = 0 then w else w * 10 + 1) → (x' = if divS m m' p % m'.natAbs = 0 then x else x - 1) →
      ∀ r y, MadeR (if decide (m < 0) = decide (m' < 0) then w' else 0 - w') x' d r y → K (.tup [.int r, .int y]) ω) :
    CallJ c (.adr 136) [.tup [.int m, .int e], .tup [.int m', .int e'], .int d] ρ ω K X := by
  refine' J_def O ["a", "b", "digits"] ["size", "below", "places", "whole", "exponent"] ["a", "b", "digits", "size", "below", "places", "whole", "exponent"] [some (.tup [.int m, .int e]), some (.tup [.int m', .int e']), some (.int d), none, none, none, none, none] 13 (by omega) ?h1 ?h2 ?h3 rfl ?h4 rfl rfl ?h5
  case h1 => exact rfl
  case h2 => exact rfl
  case h3 => exact vs3 fun _ _ _ => rfl
  case h4 => decide +kernel
  intro c' F
  have hdF := F.dep
  have b1 := h1.e1; have b2 := h1.e2; have b3 := h2.e1; have b4 := h2.e2; have b5 := h1.m; have b6 := h2.m
  repeat' walk_at "w"
  refine Br_dec (fun h3 => ?_) (fun h3 => ?_)
  · repeat' walk_at "w"
    exact hz h3
  repeat' walk_at "w"
  refine J_fig F.ok (by omega) (by omega) (pow_le300 (k := 8) (by decide) (by omega)) fun f1 hf1 => ?_
  repeat' walk_at "w"
  refine J_fig F.ok (by omega) (by omega) (pow_le300 (k := 8) (by decide) (by omega)) fun f2 hf2 => ?_
  have g1 := hf1.upto (m := 8) (by decide) (by omega)
  have g2 := hf1.one
  have g3 := hf2.one
  repeat' walk_at "w"
  generalize hp : d + 2 + max 0 ((f1 : Int) - f2) = p
  have hp1 : 0 ≤ p ∧ p ≤ 29 := by omega
  have hS : divS m m' p < 10 ^ 37 := by
    have := mul_lt_pow (a := m) (b := 10 ^ p.toNat) (i := 8) (j := 29) (by omega) (by rw [natAbs_pow10]; exact pow_mono (by omega))
    rw [Int.natAbs_mul, Int.natCast_mul, natAbs_pow10] at this
    exact this
  have hS0 : 0 ≤ divS m m' p := Int.mul_nonneg (by omega) (Int.le_of_lt (pow_pos10 _))
  refine b_mul (mulokL (by omega)) ?_
  have hbig : NotBig (m'.natAbs : Int) := ten_big (by omega) trivial
  repeat' walk_at "w"
  refine J_with_rest F.ok (by omega) ?_
  refine ⟨_, .inl rfl, rfl, ?_⟩
  have h := h h3 f1 f2 hf1 hf2 p _ _ hp.symm rfl rfl _ _ rfl rfl
  have hq : divS m m' p / (m'.natAbs : Int) ≤ divS m m' p := Int.ediv_le_self _ hS0
  have hq0 : 0 ≤ divS m m' p / (m'.natAbs : Int) := Int.ediv_nonneg hS0 (by omega)
  unfold divS at h hS hS0 hq hq0
  generalize hw : (if (m.natAbs : Int) * 10 ^ p.toNat % (m'.natAbs : Int) = 0 then (m.natAbs : Int) * 10 ^ p.toNat / (m'.natAbs : Int) else (m.natAbs : Int) * 10 ^ p.toNat / (m'.natAbs : Int) * 10 + 1) = w' at h ⊢
  generalize hx : (if (m.natAbs : Int) * 10 ^ p.toNat % (m'.natAbs : Int) = 0 then e - e' - p else e - e' - p - 1) = x' at h ⊢
  have hw' : 0 ≤ w' ∧ w' < 10 ^ 39 := by split at hw <;> omega
  have hx' : -80 ≤ x' ∧ x' ≤ 40 := by split at hx <;> omega
  repeat' walk_at "w"
  refine Br_eqb (fun h8 => ?_) (fun h8 => ?_)
  · rw [if_pos h8] at h
    repeat' walk_at "w"
    exact J_made F.ok (by omega) 39 (by omega) (by omega) (by omega) hd1 (by omega) h
  · rw [if_neg h8] at h
    repeat' walk_at "w"
    exact J_made F.ok (by omega) 39 (by omega) (by omega) (by omega) hd1 (by omega) h
noncomputable def cmpI (x y : Int) : Int := b2i (decide (y < x)) - b2i (decide (x < y))
theorem J_d_compare (O : c.Ok) (hd : 12 ≤ c.d) {m e m' e' : Int} (h1 : Sm m e) (h2 : Sm m' e') (h : K (.int (cmpI (m * 10 ^ (e - min e e').toNat) (m' * 10 ^ (e' - min e e').toNat))) ω) :
    CallJ c (.adr 143) [.tup [.int m, .int e], .tup [.int m', .int e']] ρ ω K X := by
  refine' J_def O ["a", "b"] ["one", "other", "exponent"] ["a", "b", "one", "other", "exponent"] [some (.tup [.int m, .int e]), some (.tup [.int m', .int e']), none, none, none] 11 (by omega) ?h1 ?h2 ?h3 rfl ?h4 rfl rfl ?h5
  case h1 => exact rfl
  case h2 => exact rfl
  case h3 => exact vs2 fun _ _ => rfl
  case h4 => decide +kernel
  intro c' F
  have hdF := F.dep
  have b1 := h1.e1; have b2 := h1.e2; have b3 := h2.e1; have b4 := h2.e2
  repeat' walk_at "w"
  refine J_alike F.ok (by omega) (Nat.lt_trans h1.m (by decide)) (Nat.lt_trans h2.m (by decide)) (by omega) (by omega) ?_
  repeat' walk_at "w"
  exact h
end
end TextPF
section TextPG
/-- a whole number while it has room, else a decimal -/
noncomputable def kept (n b : Int) : PV := if fitsM n b then .int n else .tup [.int (signed n (strip n.natAbs n.natAbs).1), .int (strip n.natAbs n.natAbs).2]
section
variable {c : Cx} {ρ : Store} {ω : Om} {K : PV → Om → Prop} {X : Str → Om → Prop} {N : Store → Om → Prop} {R : PV → Om → Prop} {KB : Bool → Om → Prop} {KL : List PV → Om → Prop}
theorem fits_zero (b : Int) : fitsM 0 b = true := by
  unfold fitsM
  have : (0 : Int) < 2 ^ (b - 1).toNat := Int.pow_pos (by decide)
  rw [decide_eq_true (by omega), decide_eq_true (by omega)]; rfl
theorem J_settled (O : c.Ok) (hd : 12 ≤ c.d) {n b d : Int} (h1 : 1 ≤ b) (h2 : b ≤ 64) (hd1 : 1 ≤ d) (hd2 : d ≤ 90) (hn : (n.natAbs : Int) < 10 ^ d.toNat) (h : K (kept n b) ω) : CallJ c (.adr 171) [.int n, .int b, .int d] ρ ω K X := by
  refine' J_def O ["number", "bits", "digits"] [] ["number", "bits", "digits"] [some (.int n), some (.int b), some (.int d)] 11 (by omega) ?h1 ?h2 ?h3 rfl ?h4 rfl rfl ?h5
  case h1 => exact rfl
  case h2 => exact rfl
  case h3 => exact vs3 fun _ _ _ => rfl
  case h4 => decide +kernel
  intro c' F
  have hdF := F.dep
  repeat' walk_at "w"
  refine J_fits F.ok (by omega) h1 h2 ⟨_, rfl, ?_⟩
  unfold kept at h
  cases h3 : fitsM n b with
  | true =>
    rw [h3] at h
    repeat' walk_at "w"
    exact h
  | false =>
    rw [h3] at h
    repeat' walk_at "w"
    refine J_made F.ok (by omega) d.toNat hn (by omega) (by omega) hd1 (by omega) fun m' e' hm => ?_
    obtain ⟨rfl, rfl⟩ := hm.strip (fun q => by rw [q, fits_zero] at h3; cases h3) hn
    exact h
/-- sums, differences, products -/
noncomputable def Arith (op : Str) (a b r : Int) : Prop := (op = "+" ∧ r = a + b) ∨ (op = "-" ∧ r = a - b) ∨ (op = "*" ∧ r = a * b)
theorem J_whole_reckoned (O : c.Ok) (hd : 14 ≤ c.d) {op : Str} {x y r b d : Int} (hop : Arith op x y r) (hx : x.natAbs < 2 ^ 64) (h1 : 1 ≤ b) (h2 : b ≤ 64) (hd1 : 1 ≤ d) (hd2 : d ≤ 90) (hn : (r.natAbs : Int) < 10 ^ d.toNat) (h : K (kept r b) ω) :
    CallJ c (.adr 178) [.str op, .int x, .int y, .int b, .int d] ρ ω K X := by
  refine' J_def O ["op", "a", "b", "bits", "digits"] [] ["op", "a", "b", "bits", "digits"] [some (.str op), some (.int x), some (.int y), some (.int b), some (.int d)] 13 (by omega) ?h1 ?h2 ?h3 rfl ?h4 rfl rfl ?h5
  case h1 => exact rfl
  case h2 => exact rfl
  case h3 => exact vs5 fun _ _ _ _ _ => rfl
  case h4 => decide +kernel
  intro c' F
  have hdF := F.dep
  rcases hop with ⟨rfl, rfl⟩ | ⟨rfl, rfl⟩ | ⟨rfl, rfl⟩
  · repeat' walk_at "w"
    exact J_settled F.ok (by omega) h1 h2 hd1 hd2 hn h
  · repeat' walk_at "w"
    exact J_settled F.ok (by omega) h1 h2 hd1 hd2 hn h
  · repeat' walk_at "w"
    refine b_mul (mulokL hx) ?_
    repeat' walk_at "w"
    exact J_settled F.ok (by omega) h1 h2 hd1 hd2 hn h
noncomputable def quo (a b : Int) : Int := if decide (a < 0) = decide (b < 0) then (a.natAbs : Int) / b.natAbs else -((a.natAbs : Int) / b.natAbs)
noncomputable def rest (a b : Int) : Int := a - b * quo a b
theorem J_cut_quotient (O : c.Ok) (hd : 10 ≤ c.d) {x y : Int} (hy : y.natAbs < 2 ^ 64) (hz : y = 0 → X "DZ" ω) (h : y ≠ 0 → K (.int (quo x y)) ω) : CallJ c (.adr 185) [.int x, .int y] ρ ω K X := by
  refine' J_def O ["a", "b"] ["found"] ["a", "b", "found"] [some (.int x), some (.int y), none] 9 (by omega) ?h1 ?h2 ?h3 rfl ?h4 rfl rfl ?h5
  case h1 => exact rfl
  case h2 => exact rfl
  case h3 => exact vs2 fun _ _ => rfl
  case h4 => decide +kernel
  intro c' F
  have hdF := F.dep
  repeat' walk_at "w"
  refine Br_dec (fun h1 => ?_) (fun h1 => ?_)
  · repeat' walk_at "w"
    exact hz h1
  have hb : NotBig (y.natAbs : Int) := ten_big (by omega) trivial
  repeat' walk_at "w"
  have h := h h1
  unfold quo at h
  refine Br_eqb (fun h8 => ?_) (fun h8 => ?_)
  · rw [if_pos h8] at h
    repeat' walk_at "w"
    exact h
  · rw [if_neg h8] at h
    repeat' walk_at "w"
    rw [Int.zero_sub]; exact h
theorem J_cut_rest (O : c.Ok) (hd : 12 ≤ c.d) {x y : Int} (hy : y.natAbs < 2 ^ 64) (hz : y = 0 → X "DZ" ω) (h : y ≠ 0 → K (.int (rest x y)) ω) : CallJ c (.adr 192) [.int x, .int y] ρ ω K X := by
  refine' J_def O ["a", "b"] [] ["a", "b"] [some (.int x), some (.int y)] 11 (by omega) ?h1 ?h2 ?h3 rfl ?h4 rfl rfl ?h5
  case h1 => exact rfl
  case h2 => exact rfl
  case h3 => exact vs2 fun _ _ => rfl
  case h4 => decide +kernel
  intro c' F
  have hdF := F.dep
  repeat' walk_at "w"
  refine J_cut_quotient F.ok (by omega) hy hz fun h1 => ?_
  refine b_mul (mulokL hy) ?_
  repeat' walk_at "w"
  exact h h1
theorem J_isw_i (O : c.Ok) (hd : 10 ≤ c.d) {n : Int} (h : K (.bool true) ω) : CallJ c (.adr 164) [.int n] ρ ω K X := J_is_whole (v := .i n) O hd h
theorem J_isw_t (O : c.Ok) (hd : 10 ≤ c.d) {m e : Int} (h : K (.bool false) ω) : CallJ c (.adr 164) [.tup [.int m, .int e]] ρ ω K X := J_is_whole (v := .t m e) O hd h
theorem J_isw_s (O : c.Ok) (hd : 10 ≤ c.d) (h : X "TM" ω) : CallJ c (.adr 164) [.str "A"] ρ ω K X := J_is_whole (v := .s) O hd h
theorem J_exponent_of (O : c.Ok) (hd : 12 ≤ c.d) {x : Int} (h : K (.int x) ω) : CallJ c (.adr 199) [.int x] ρ ω K X := by
  refine' J_def O ["value"] [] ["value"] [some (.int x)] 11 (by omega) ?h1 ?h2 ?h3 rfl ?h4 rfl rfl ?h5
  case h1 => exact rfl
  case h2 => exact rfl
  case h3 => exact vs1 fun _ => rfl
  case h4 => decide +kernel
  intro c' F
  have hdF := F.dep
  repeat' walk_at "w"
  refine J_isw_i F.ok (by omega) ⟨_, rfl, ?_⟩
  repeat' walk_at "w"
  exact h
theorem pow_small {x : Int} (hx : x.natAbs < 2) {n : Nat} : x ^ n = if n % 2 = 1 then x else if n = 0 then 1 else (x.natAbs : Int) := by
  have h3 : x = 0 ∨ x = 1 ∨ x = -1 := by omega
  induction n with
  | zero => simp
  | succ n ih =>
    rw [Int.pow_succ, ih]
    rcases h3 with rfl | rfl | rfl <;> split <;> split <;> (try split) <;> (try split) <;> simp <;> omega
theorem fits_small {x b : Int} (hx : -1 ≤ x ∧ x ≤ 1) (hb : 2 ≤ b) : fitsM x b = true := by
  unfold fitsM
  have : (2 : Int) ^ 1 ≤ 2 ^ (b - 1).toNat := by
    have h : 2 ^ 1 ≤ 2 ^ (b - 1).toNat := Nat.pow_le_pow_right (by decide) (by omega)
    exact_mod_cast h
  rw [decide_eq_true (by omega), decide_eq_true (by omega)]; rfl
theorem J_whole_power (O : c.Ok) (hd : 14 ≤ c.d) {x : Int} {n : Nat} {b d : Int} (hx : x.natAbs < 2 ^ 64) (hn : n ≤ 4) (h1 : 2 ≤ b) (h2 : b ≤ 64) (hd1 : 1 ≤ d) (hd2 : d ≤ 90) (hr : ((x ^ n).natAbs : Int) < 10 ^ d.toNat) (h : K (kept (x ^ n) b) ω) :
    CallJ c (.adr 206) [.int x, .int n, .int b, .int d] ρ ω K X := by
  refine' J_def O ["a", "n", "bits", "digits"] [] ["a", "n", "bits", "digits"] [some (.int x), some (.int n), some (.int b), some (.int d)] 13 (by omega) ?h1 ?h2 ?h3 rfl ?h4 rfl rfl ?h5
  case h1 => exact rfl
  case h2 => exact rfl
  case h3 => exact vs4 fun _ _ _ _ => rfl
  case h4 => decide +kernel
  intro c' F
  have hdF := F.dep
  repeat' walk_at "w"
  refine Br_dec (fun h3 => ?_) (fun h3 => ?_)
  · rw [pow_small (by omega)] at h
    have hk : ∀ r : Int, -1 ≤ r ∧ r ≤ 1 → kept r b = .int r := fun r hr => by unfold kept; rw [fits_small hr h1]; rfl
    rw [hk _ (by split <;> (try split) <;> omega)] at h
    repeat' walk_at "w"
    refine Br_dec (fun h4 => ?_) (fun h4 => ?_)
    · rw [if_pos (by omega)] at h
      repeat' walk_at "w"
      exact h
    rw [if_neg (by omega)] at h
    repeat' walk_at "w"
    refine Br_dec (fun h5 => ?_) (fun h5 => ?_)
    · rw [if_pos (by omega)] at h
      repeat' walk_at "w"
      exact h
    rw [if_neg (by omega)] at h
    repeat' walk_at "w"
    exact h
  repeat' walk_at "w"
  refine Br_dec (fun h4 => by omega) (fun h4 => ?_)
  repeat' walk_at "w"
  refine b_pow (by omega) ?_ ?_
  · have := bits_le hx
    have h5 : (Builtin.Int.intBits x : Int) * n ≤ 64 * n := Int.mul_le_mul_of_nonneg_right (by omega) (by omega)
    omega
  repeat' walk_at "w"
  exact J_settled F.ok (by omega) (by omega) h2 hd1 hd2 hr h
theorem J_raised (O : c.Ok) (hd : 16 ≤ c.d) {x : Int} {n : Nat} {b d : Int} (hx : x.natAbs < 2 ^ 64) (hn : n ≤ 4) (h1 : 2 ≤ b) (h2 : b ≤ 64) (hd1 : 1 ≤ d) (hd2 : d ≤ 90) (hr : ((x ^ n).natAbs : Int) < 10 ^ d.toNat) (h : K (kept (x ^ n) b) ω) :
    CallJ c (.adr 213) [.int x, .int n, .int b, .int d] ρ ω K X := by
  refine' J_def O ["a", "b", "bits", "digits"] ["n"] ["a", "b", "bits", "digits", "n"] [some (.int x), some (.int n), some (.int b), some (.int d), none] 15 (by omega) ?h1 ?h2 ?h3 rfl ?h4 rfl rfl ?h5
  case h1 => exact rfl
  case h2 => exact rfl
  case h3 => exact vs4 fun _ _ _ _ => rfl
  case h4 => decide +kernel
  intro c' F
  have hdF := F.dep
  repeat' walk_at "w"
  refine J_exponent_of F.ok (by omega) ?_
  repeat' walk_at "w"
  refine J_isw_i F.ok (by omega) ⟨_, rfl, ?_⟩
  repeat' walk_at "w"
  refine Br_dec (fun h3 => ?_) (fun h3 => by omega)
  repeat' walk_at "w"
  exact J_whole_power F.ok (by omega) hx hn h1 h2 hd1 hd2 hr h
end
end TextPG
section TextPH
theorem fits_bd {n b : Int} (h : fitsM n b = true) (hb : b ≤ 16) : n.natAbs ≤ 2 ^ 15 := by
  unfold fitsM at h
  rw [Bool.and_eq_true, decide_eq_true_eq, decide_eq_true_eq] at h
  have : (2 : Int) ^ (b - 1).toNat ≤ 2 ^ 15 := by
    have h : 2 ^ (b - 1).toNat ≤ 2 ^ 15 := Nat.pow_le_pow_right (by decide) (by omega)
    exact_mod_cast h
  omega
theorem quo_bd {x y : Int} : (quo x y).natAbs ≤ x.natAbs := by
  have h1 : (x.natAbs : Int) / y.natAbs ≤ x.natAbs := Int.ediv_le_self _ (by omega)
  have h2 : 0 ≤ (x.natAbs : Int) / y.natAbs := Int.ediv_nonneg (by omega) (by omega)
  unfold quo; split <;> omega
theorem rest_bd {x y : Int} (hy : y ≠ 0) : (rest x y).natAbs ≤ x.natAbs := by
  have h3 := Int.mul_ediv_add_emod (x.natAbs : Int) y.natAbs
  have h4 := Int.emod_nonneg (x.natAbs : Int) (show (y.natAbs : Int) ≠ 0 by omega)
  have h5 : 0 ≤ (y.natAbs : Int) * ((x.natAbs : Int) / y.natAbs) := Int.mul_nonneg (by omega) (Int.ediv_nonneg (by omega) (by omega))
  have h6 : y * ((x.natAbs : Int) / y.natAbs) = (if y < 0 then -((y.natAbs : Int) * ((x.natAbs : Int) / y.natAbs)) else (y.natAbs : Int) * ((x.natAbs : Int) / y.natAbs)) := by
    split
    · rename_i h
      rw [← Int.neg_mul]; congr 1; omega
    · rename_i h
      congr 1; omega
  unfold rest quo
  by_cases hx : x < 0 <;> by_cases hy' : y < 0 <;> simp only [hx, hy', decide_true, decide_false, if_true, if_false, Int.mul_neg, Bool.true_eq_false, Bool.false_eq_true] at h6 ⊢ <;> omega
section
variable {c : Cx} {sc : Scope} {vs : List Str} {n : Nat} {ρ : Store} {ω : Om} {K : PV → Om → Prop} {X : Str → Om → Prop} {N : Store → Om → Prop} {R : PV → Om → Prop} {KB : Bool → Om → Prop} {KL : List PV → Om → Prop}
theorem J_isw (O : c.Ok) (hd : 10 ≤ c.d) {v : Va} (hs : v = .s → X "TM" ω) (h : v ≠ .s → K (.bool v.isI) ω) : CallJ c (.adr 164) [v.pv] ρ ω K X :=
  J_is_whole O hd (by
    cases v with
    | s => exact hs rfl
    | i n => exact h (by intro q; cases q)
    | t m e => exact h (by intro q; cases q))
theorem J_wo (O : c.Ok) (hd : 12 ≤ c.d) {v : Va} {b : Int} (hv : v.Ok) (h1 : 1 ≤ b) (h2 : b ≤ 64) (hs : v = .s → X "TM" ω) (ho : v ≠ .s → fitsM v.near b = false → X "OV" ω) (h : v ≠ .s → fitsM v.near b = true → K (.int v.near) ω) : CallJ c (.adr 79) [v.pv, .int b] ρ ω K X :=
  J_whole_of O hd hv h1 h2 (by
    cases v with
    | s => exact hs rfl
    | i n =>
      show if fitsM (Va.i n).near b then _ else _
      split
      · rename_i q; exact h (by intro q; cases q) q
      · rename_i q; exact ho (by intro q; cases q) (by simpa using q)
    | t m e =>
      show if fitsM (Va.t m e).near b then _ else _
      split
      · rename_i q; exact h (by intro q; cases q) q
      · rename_i q; exact ho (by intro q; cases q) (by simpa using q))
theorem J_dec (O : c.Ok) (hd : 12 ≤ c.d) {v : Va} {d : Int} (hv : v.Ok) (h1 : 1 ≤ d) (h2 : d ≤ 100) (hs : v = .s → X "TM" ω) (h : v ≠ .s → ∀ m' e', MadeR v.m v.e d m' e' → Sm m' e' → K (.tup [.int m', .int e']) ω) : CallJ c (.adr 86) [v.pv, .int d] ρ ω K X :=
  J_decimal_of O hd hv h1 h2 (by
    cases v with
    | s => exact hs rfl
    | i n =>
      intro m' e' hm
      unfold Va.Ok at hv
      have := hm.bounds (k := 7) (by show (n.natAbs : Int) < _; omega)
      have e1 : (Va.i n).m = n := rfl
      have e2 : (Va.i n).e = 0 := rfl
      rw [e1, e2] at this
      exact h (by intro q; cases q) _ _ hm ⟨by omega, by omega, by omega⟩
    | t m e =>
      intro m' e' hm
      unfold Va.Ok at hv
      have := hm.bounds (k := 3) (by show (m.natAbs : Int) < _; omega)
      have e1 : (Va.t m e).m = m := rfl
      have e2 : (Va.t m e).e = e := rfl
      rw [e1, e2] at this
      exact h (by intro q; cases q) _ _ hm ⟨by omega, by omega, by omega⟩)
/-- the cut quotient and the rest, or the refusal -/
noncomputable def resQ (v u : Va) (b : Int) (f : Int → Int → Int) : Except Str PV :=
  if v.isS || u.isS then .error "TM" else if !fitsM v.near b then .error "OV" else if !fitsM u.near b then .error "OV" else if u.near = 0 then .error "DZ" else .ok (kept (f v.near u.near) b)
noncomputable def Res (r : Except Str PV) (K : PV → Prop) (X : Str → Prop) : Prop := match r with
  | .error x => X x
  | .ok p => K p
theorem isS_iff {v : Va} : v.isS = true ↔ v = .s := by cases v <;> simp [Va.isS]
theorem not_isS {v : Va} (h : v ≠ .s) : v.isS = false := by cases v <;> first | rfl | exact absurd rfl h
theorem J_reckoned_q (O : c.Ok) (hd : 20 ≤ c.d) {op : Str} {v u : Va} {b d : Int} {f : Int → Int → Int} (hop : (op = "\\" ∧ f = quo) ∨ (op = "MOD" ∧ f = rest)) (hv : v.Ok) (hu : u.Ok) (h1 : 1 ≤ b) (h2 : b ≤ 16) (hd1 : 9 ≤ d) (hd2 : d ≤ 90)
    (h : Res (resQ v u b f) (fun p => K p ω) (fun x => X x ω)) : CallJ c (.adr 220) [.str op, v.pv, u.pv, .int b, .int d] ρ ω K X := by
  refine' J_def O ["op", "a", "b", "bits", "digits"] ["is_first", "is_second", "work", "one", "other"] ["op", "a", "b", "bits", "digits", "is_first", "is_second", "work", "one", "other"] [some (.str op), some (v.pv), some (u.pv), some (.int b), some (.int d), none, none, none, none, none] 19 (by omega) ?h1 ?h2 ?h3 rfl ?h4 rfl rfl ?h5
  case h1 => exact rfl
  case h2 => exact rfl
  case h3 => exact vs5 fun _ _ _ _ _ => rfl
  case h4 => decide +kernel
  intro c' F
  have hdF := F.dep
  have hten : (10 : Int) ^ 9 ≤ 10 ^ d.toNat := pow_mono (by omega)
  rcases hop with ⟨rfl, rfl⟩ | ⟨rfl, rfl⟩
  · repeat' walk_at "w"
    refine J_isw F.ok (by omega) (fun q => ?_) (fun q1 => ?_)
    · subst q; exact h
    repeat' walk_at "w"
    refine J_isw F.ok (by omega) (fun q => ?_) (fun q2 => ?_)
    · subst q; unfold resQ at h; rw [not_isS q1] at h; exact h
    unfold resQ at h; rw [not_isS q1, not_isS q2] at h
    repeat' walk_at "w"
    refine J_wo F.ok (by omega) hv h1 (by omega) (fun q => absurd q q1) (fun _ q3 => ?_) (fun _ q3 => ?_)
    · rw [q3] at h; exact h
    repeat' walk_at "w"
    refine J_wo F.ok (by omega) hu h1 (by omega) (fun q => absurd q q2) (fun _ q4 => ?_) (fun _ q4 => ?_)
    · rw [q3, q4] at h; exact h
    rw [q3, q4] at h
    have h : Res (if u.near = 0 then Except.error ("DZ" : Str) else _) _ _ := h
    have z1 := fits_bd q3 h2
    have z2 := fits_bd q4 h2
    repeat' walk_at "w"
    refine J_cut_quotient F.ok (by omega) (by omega) (fun q => ?_) (fun q => ?_)
    · rw [if_pos q] at h; exact h
    rw [if_neg q] at h
    repeat' walk_at "w"
    have z3 := quo_bd (x := v.near) (y := u.near)
    exact J_settled F.ok (by omega) h1 (by omega) (by omega) hd2 (by omega) h
  · repeat' walk_at "w"
    refine J_isw F.ok (by omega) (fun q => ?_) (fun q1 => ?_)
    · subst q; exact h
    repeat' walk_at "w"
    refine J_isw F.ok (by omega) (fun q => ?_) (fun q2 => ?_)
    · subst q; unfold resQ at h; rw [not_isS q1] at h; exact h
    unfold resQ at h; rw [not_isS q1, not_isS q2] at h
    repeat' walk_at "w"
    refine J_wo F.ok (by omega) hv h1 (by omega) (fun q => absurd q q1) (fun _ q3 => ?_) (fun _ q3 => ?_)
    · rw [q3] at h; exact h
    repeat' walk_at "w"
    refine J_wo F.ok (by omega) hu h1 (by omega) (fun q => absurd q q2) (fun _ q4 => ?_) (fun _ q4 => ?_)
    · rw [q3, q4] at h; exact h
    rw [q3, q4] at h
    have h : Res (if u.near = 0 then Except.error ("DZ" : Str) else _) _ _ := h
    have z1 := fits_bd q3 h2
    have z2 := fits_bd q4 h2
    repeat' walk_at "w"
    refine J_cut_rest F.ok (by omega) (by omega) (fun q => ?_) (fun q => ?_)
    · rw [if_pos q] at h; exact h
    rw [if_neg q] at h
    repeat' walk_at "w"
    have z3 := rest_bd (x := v.near) q
    exact J_settled F.ok (by omega) h1 (by omega) (by omega) hd2 (by omega) h
end
end TextPH
section TextPI
section
variable {c : Cx} {sc : Scope} {vs : List Str} {n : Nat} {ρ : Store} {ω : Om} {K : PV → Om → Prop} {X : Str → Om → Prop} {N : Store → Om → Prop} {R : PV → Om → Prop} {KB : Bool → Om → Prop} {KL : List PV → Om → Prop}
theorem J_reckoned_i (O : c.Ok) (hd : 20 ≤ c.d) {op : Str} {x y r b d : Int} (hop : Arith op x y r) (hx : x.natAbs < 2 ^ 64) (h1 : 1 ≤ b) (h2 : b ≤ 64) (hd1 : 1 ≤ d) (hd2 : d ≤ 90) (hn : (r.natAbs : Int) < 10 ^ d.toNat) (h : K (kept r b) ω) :
    CallJ c (.adr 220) [.str op, .int x, .int y, .int b, .int d] ρ ω K X := by
  refine' J_def O ["op", "a", "b", "bits", "digits"] ["is_first", "is_second", "work", "one", "other"] ["op", "a", "b", "bits", "digits", "is_first", "is_second", "work", "one", "other"] [some (.str op), some (.int x), some (.int y), some (.int b), some (.int d), none, none, none, none, none] 19 (by omega) ?h1 ?h2 ?h3 rfl ?h4 rfl rfl ?h5
  case h1 => exact rfl
  case h2 => exact rfl
  case h3 => exact vs5 fun _ _ _ _ _ => rfl
  case h4 => decide +kernel
  intro c' F
  have hdF := F.dep
  have hop' := hop
  rcases hop with ⟨rfl, rfl⟩ | ⟨rfl, rfl⟩ | ⟨rfl, rfl⟩ <;>
  · repeat' walk_at "w"
    refine J_isw_i F.ok (by omega) ?_
    repeat' walk_at "w"
    refine J_isw_i F.ok (by omega) ?_
    repeat' walk_at "w"
    exact J_whole_reckoned F.ok (by omega) hop' hx h1 h2 hd1 hd2 hn h
theorem J_reckoned_p (O : c.Ok) (hd : 20 ≤ c.d) {x : Int} {n : Nat} {b d : Int} (hx : x.natAbs < 2 ^ 64) (hn : n ≤ 4) (h1 : 2 ≤ b) (h2 : b ≤ 64) (hd1 : 1 ≤ d) (hd2 : d ≤ 90) (hr : ((x ^ n).natAbs : Int) < 10 ^ d.toNat) (h : K (kept (x ^ n) b) ω) :
    CallJ c (.adr 220) [.str "^", .int x, .int n, .int b, .int d] ρ ω K X := by
  refine' J_def O ["op", "a", "b", "bits", "digits"] ["is_first", "is_second", "work", "one", "other"] ["op", "a", "b", "bits", "digits", "is_first", "is_second", "work", "one", "other"] [some (.str "^"), some (.int x), some (.int n), some (.int b), some (.int d), none, none, none, none, none] 19 (by omega) ?h1 ?h2 ?h3 rfl ?h4 rfl rfl ?h5
  case h1 => exact rfl
  case h2 => exact rfl
  case h3 => exact vs5 fun _ _ _ _ _ => rfl
  case h4 => decide +kernel
  intro c' F
  have hdF := F.dep
  repeat' walk_at "w"
  refine J_isw_i F.ok (by omega) ?_
  repeat' walk_at "w"
  refine J_isw_i F.ok (by omega) ?_
  repeat' walk_at "w"
  exact J_raised F.ok (by omega) hx hn h1 h2 hd1 hd2 hr h
/-- with a decimal: some decimal, or a refusal -/
theorem J_reckoned_d (O : c.Ok) (hd : 20 ≤ c.d) {op : Str} {v u : Va} {b d : Int} (hop : op = "+" ∨ op = "-" ∨ op = "*" ∨ op = "/") (hv : v.Ok) (hu : u.Ok) (hvu : v.isI = false ∨ u.isI = false) (hd1 : 1 ≤ d) (hd2 : d ≤ 20)
    (hs : v = .s ∨ u = .s → X "TM" ω) (hz : v ≠ .s → u ≠ .s → X "DZ" ω) (h : v ≠ .s → u ≠ .s → ∀ m e, K (.tup [.int m, .int e]) ω) : CallJ c (.adr 220) [.str op, v.pv, u.pv, .int b, .int d] ρ ω K X := by
  refine' J_def O ["op", "a", "b", "bits", "digits"] ["is_first", "is_second", "work", "one", "other"] ["op", "a", "b", "bits", "digits", "is_first", "is_second", "work", "one", "other"] [some (.str op), some (v.pv), some (u.pv), some (.int b), some (.int d), none, none, none, none, none] 19 (by omega) ?h1 ?h2 ?h3 rfl ?h4 rfl rfl ?h5
  case h1 => exact rfl
  case h2 => exact rfl
  case h3 => exact vs5 fun _ _ _ _ _ => rfl
  case h4 => decide +kernel
  intro c' F
  have hdF := F.dep
  rcases hop with rfl | rfl | rfl | rfl
  · repeat' walk_at "w"
    refine J_isw F.ok (by omega) (fun q => hs (.inl q)) (fun q1 => ?_)
    repeat' walk_at "w"
    refine J_isw F.ok (by omega) (fun q => hs (.inr q)) (fun q2 => ?_)
    have h := h q1 q2
    have hz := hz q1 q2
    repeat' walk_at "v"
    walk_at "w"
    repeat' walk_at "v"
    walk_at "w"
    repeat' walk_at "v"
    refine SS_mid (fun ρ' ω' => ω = ω' ∧ ρ' = [some (.str "+"), some v.pv, some u.pv, some (.int b), some (.int d), some (.bool v.isI), some (.bool u.isI), none, none, none]) ?_ ?_
    · repeat' walk_at "w"
      rcases hvu with hh | hh
      · rw [hh]
        repeat' walk_at "w"
        exact ⟨rfl, rfl⟩
      · cases hI : v.isI with
        | false =>
          repeat' walk_at "w"
          exact ⟨rfl, rfl⟩
        | true =>
          rw [hh]
          repeat' walk_at "w"
          exact ⟨rfl, rfl⟩
    rintro _ _ ⟨rfl, rfl⟩
    repeat' walk_at "w"
    refine J_dec F.ok (by omega) hv hd1 (by omega) (fun q => absurd q q1) fun _ m1 e1 _ s1 => ?_
    repeat' walk_at "w"
    refine J_dec F.ok (by omega) hu hd1 (by omega) (fun q => absurd q q2) fun _ m2 e2 _ s2 => ?_
    repeat' walk_at "w"
    exact J_d_add F.ok (by omega) s1 s2 hd1 (by omega) h
  · repeat' walk_at "w"
    refine J_isw F.ok (by omega) (fun q => hs (.inl q)) (fun q1 => ?_)
    repeat' walk_at "w"
    refine J_isw F.ok (by omega) (fun q => hs (.inr q)) (fun q2 => ?_)
    have h := h q1 q2
    have hz := hz q1 q2
    repeat' walk_at "v"
    walk_at "w"
    repeat' walk_at "v"
    walk_at "w"
    repeat' walk_at "v"
    refine SS_mid (fun ρ' ω' => ω = ω' ∧ ρ' = [some (.str "-"), some v.pv, some u.pv, some (.int b), some (.int d), some (.bool v.isI), some (.bool u.isI), none, none, none]) ?_ ?_
    · repeat' walk_at "w"
      rcases hvu with hh | hh
      · rw [hh]
        repeat' walk_at "w"
        exact ⟨rfl, rfl⟩
      · cases hI : v.isI with
        | false =>
          repeat' walk_at "w"
          exact ⟨rfl, rfl⟩
        | true =>
          rw [hh]
          repeat' walk_at "w"
          exact ⟨rfl, rfl⟩
    rintro _ _ ⟨rfl, rfl⟩
    repeat' walk_at "w"
    refine J_dec F.ok (by omega) hv hd1 (by omega) (fun q => absurd q q1) fun _ m1 e1 _ s1 => ?_
    repeat' walk_at "w"
    refine J_dec F.ok (by omega) hu hd1 (by omega) (fun q => absurd q q2) fun _ m2 e2 _ s2 => ?_
    repeat' walk_at "w"
    exact J_d_sub F.ok (by omega) s1 s2 hd1 (by omega) h
  · repeat' walk_at "w"
    refine J_isw F.ok (by omega) (fun q => hs (.inl q)) (fun q1 => ?_)
    repeat' walk_at "w"
    refine J_isw F.ok (by omega) (fun q => hs (.inr q)) (fun q2 => ?_)
    have h := h q1 q2
    have hz := hz q1 q2
    repeat' walk_at "v"
    walk_at "w"
    repeat' walk_at "v"
    walk_at "w"
    repeat' walk_at "v"
    refine SS_mid (fun ρ' ω' => ω = ω' ∧ ρ' = [some (.str "*"), some v.pv, some u.pv, some (.int b), some (.int d), some (.bool v.isI), some (.bool u.isI), none, none, none]) ?_ ?_
    · repeat' walk_at "w"
      rcases hvu with hh | hh
      · rw [hh]
        repeat' walk_at "w"
        exact ⟨rfl, rfl⟩
      · cases hI : v.isI with
        | false =>
          repeat' walk_at "w"
          exact ⟨rfl, rfl⟩
        | true =>
          rw [hh]
          repeat' walk_at "w"
          exact ⟨rfl, rfl⟩
    rintro _ _ ⟨rfl, rfl⟩
    repeat' walk_at "w"
    refine J_dec F.ok (by omega) hv hd1 (by omega) (fun q => absurd q q1) fun _ m1 e1 _ s1 => ?_
    repeat' walk_at "w"
    refine J_dec F.ok (by omega) hu hd1 (by omega) (fun q => absurd q q2) fun _ m2 e2 _ s2 => ?_
    repeat' walk_at "w"
    exact J_d_mul F.ok (by omega) s1 s2 hd1 (by omega) h
  · repeat' walk_at "w"
    refine J_isw F.ok (by omega) (fun q => hs (.inl q)) (fun q1 => ?_)
    repeat' walk_at "w"
    refine J_isw F.ok (by omega) (fun q => hs (.inr q)) (fun q2 => ?_)
    have h := h q1 q2
    have hz := hz q1 q2
    repeat' walk_at "v"
    walk_at "w"
    repeat' walk_at "v"
    walk_at "w"
    repeat' walk_at "v"
    refine SS_mid (fun ρ' ω' => ω = ω' ∧ ρ' = [some (.str "/"), some v.pv, some u.pv, some (.int b), some (.int d), some (.bool v.isI), some (.bool u.isI), none, none, none]) ?_ ?_
    · repeat' walk_at "w"
      exact ⟨rfl, rfl⟩
    rintro _ _ ⟨rfl, rfl⟩
    repeat' walk_at "w"
    refine J_dec F.ok (by omega) hv hd1 (by omega) (fun q => absurd q q1) fun _ m1 e1 _ s1 => ?_
    repeat' walk_at "w"
    refine J_dec F.ok (by omega) hu hd1 (by omega) (fun q => absurd q q2) fun _ m2 e2 _ s2 => ?_
    repeat' walk_at "w"
    exact J_d_div F.ok (by omega) s1 s2 hd1 hd2 (fun _ => hz) fun _ _ _ _ _ _ _ _ _ _ _ _ _ _ _ _ _ _ => h _ _
end
end TextPI
section TextPJ
section
variable {c : Cx} {sc : Scope} {vs : List Str} {n : Nat} {ρ : Store} {ω : Om} {K : PV → Om → Prop} {X : Str → Om → Prop} {N : Store → Om → Prop} {R : PV → Om → Prop} {KB : Bool → Om → Prop} {KL : List PV → Om → Prop}
theorem fig_is {n : Int} {k f : Nat} (h : FigR n f) (h1 : 1 ≤ k) (h2 : n < 10 ^ k) (h3 : k = 1 ∨ 10 ^ (k - 1) ≤ n) : f = k := by
  have := h.upto h1 h2
  have := (FigR.mk h1 h2 h3).upto h.one h.lt
  omega
theorem J_seven (O : c.Ok) (hd : 20 ≤ c.d) {b : Int} (h : K (.tup [.int 35, .int (-1)]) ω) : CallJ c (.adr 220) [.str "/", .int 7, .int 2, .int b, .int 9] ρ ω K X := by
  refine' J_def O ["op", "a", "b", "bits", "digits"] ["is_first", "is_second", "work", "one", "other"] ["op", "a", "b", "bits", "digits", "is_first", "is_second", "work", "one", "other"] [some (.str "/"), some (.int 7), some (.int 2), some (.int b), some (.int 9), none, none, none, none, none] 19 (by omega) ?h1 ?h2 ?h3 rfl ?h4 rfl rfl ?h5
  case h1 => exact rfl
  case h2 => exact rfl
  case h3 => exact vs5 fun _ _ _ _ _ => rfl
  case h4 => decide +kernel
  intro c' F
  have hdF := F.dep
  repeat' walk_at "w"
  refine J_isw_i F.ok (by omega) ?_
  repeat' walk_at "w"
  refine J_isw_i F.ok (by omega) ?_
  repeat' walk_at "w"
  refine J_dec (v := .i 7) F.ok (by omega) (by show 7 < _; decide) (by omega) (by omega) (fun q => by cases q) fun _ m1 e1 r1 s1 => ?_
  obtain ⟨g1, g2⟩ := r1.ex 7 0 (by decide) (by decide) (by decide)
  repeat' walk_at "w"
  refine J_dec (v := .i 2) F.ok (by omega) (by show 2 < _; decide) (by omega) (by omega) (fun q => by cases q) fun _ m2 e2 r2 s2 => ?_
  obtain ⟨g3, g4⟩ := r2.ex 2 0 (by decide) (by decide) (by decide)
  have g1 : m1 = 7 := g1
  have g2 : e1 = 0 := g2
  have g3 : m2 = 2 := g3
  have g4 : e2 = 0 := g4
  subst g1 g2 g3 g4
  repeat' walk_at "w"
  refine J_d_div F.ok (by omega) s1 s2 (by omega) (by omega) (fun q => by cases q) fun _ f1 f2 hf1 hf2 p w x hp hw hx w' x' hw' hx' r y hr => ?_
  obtain rfl := fig_is (k := 1) hf1 (by decide) (by decide) (.inl rfl)
  obtain rfl := fig_is (k := 1) hf2 (by decide) (by decide) (.inl rfl)
  have hp : p = 11 := hp
  subst hp
  have hw : w = 350000000000 := hw
  have hw' : w' = w := hw'
  have hx' : x' = x := hx'
  have hx : x = -11 := hx
  subst hw' hx' hw hx
  obtain ⟨z1, z2⟩ := hr.ex 35 10 (by decide) (by decide) (by decide)
  have z1 : r = 35 := z1
  have z2 : y = -1 := z2
  subst z1 z2
  exact h
theorem J_negated (O : c.Ok) (hd : 14 ≤ c.d) {x b d : Int} (h1 : 1 ≤ b) (h2 : b ≤ 64) (hd1 : 1 ≤ d) (hd2 : d ≤ 90) (hn : (x.natAbs : Int) < 10 ^ d.toNat) (h : K (kept (0 - x) b) ω) : CallJ c (.adr 227) [.int x, .int b, .int d] ρ ω K X := by
  refine' J_def O ["a", "bits", "digits"] [] ["a", "bits", "digits"] [some (.int x), some (.int b), some (.int d)] 13 (by omega) ?h1 ?h2 ?h3 rfl ?h4 rfl rfl ?h5
  case h1 => exact rfl
  case h2 => exact rfl
  case h3 => exact vs3 fun _ _ _ => rfl
  case h4 => decide +kernel
  intro c' F
  have hdF := F.dep
  repeat' walk_at "w"
  refine J_isw_i F.ok (by omega) ⟨_, rfl, ?_⟩
  repeat' walk_at "w"
  exact J_settled F.ok (by omega) h1 h2 hd1 hd2 (by omega) h
theorem J_inverted (O : c.Ok) (hd : 14 ≤ c.d) {x b : Int} (hx : x.natAbs < 2 ^ 20) (h1 : 1 ≤ b) (h2 : b ≤ 64) (hf : fitsM x b = true) (h : K (.int (-1 - x)) ω) : CallJ c (.adr 248) [.int x, .int b] ρ ω K X := by
  refine' J_def O ["a", "bits"] [] ["a", "bits"] [some (.int x), some (.int b)] 13 (by omega) ?h1 ?h2 ?h3 rfl ?h4 rfl rfl ?h5
  case h1 => exact rfl
  case h2 => exact rfl
  case h3 => exact vs2 fun _ _ => rfl
  case h4 => decide +kernel
  intro c' F
  have hdF := F.dep
  repeat' walk_at "w"
  refine J_wo (v := .i x) F.ok (by omega) hx h1 h2 (fun q => by cases q) (fun _ q => ?_) fun _ _ => ?_
  · rw [show (Va.i x).near = x from rfl, hf] at q; cases q
  repeat' walk_at "w"
  exact h
noncomputable def Stand (op : Str) (o : Int) (r : Bool) : Prop :=
  (op = "=" ∧ r = decide (o = 0)) ∨ (op = "<>" ∧ r = !decide (o = 0)) ∨ (op = "<" ∧ r = decide (o < 0)) ∨ (op = ">" ∧ r = decide (0 < o)) ∨ (op = "<=" ∧ r = !decide (0 < o)) ∨ (op = ">=" ∧ r = !decide (o < 0))
theorem J_stands (O : c.Ok) (hd : 10 ≤ c.d) {op : Str} {o : Int} {r : Bool} (hop : Stand op o r) (h : K (.bool r) ω) : CallJ c (.adr 241) [.str op, .int o] ρ ω K X := by
  refine' J_def O ["op", "order"] [] ["op", "order"] [some (.str op), some (.int o)] 9 (by omega) ?h1 ?h2 ?h3 rfl ?h4 rfl rfl ?h5
  case h1 => exact rfl
  case h2 => exact rfl
  case h3 => exact vs2 fun _ _ => rfl
  case h4 => decide +kernel
  intro c' F
  have hdF := F.dep
  have b1 : ∀ t : Bool, (t == true) = t := by decide
  have b2 : ∀ t : Bool, (t == false) = !t := by decide
  rcases hop with ⟨rfl, rfl⟩ | ⟨rfl, rfl⟩ | ⟨rfl, rfl⟩ | ⟨rfl, rfl⟩ | ⟨rfl, rfl⟩ | ⟨rfl, rfl⟩
  · repeat' walk_at "w"
    have : decide (("=" : Str) = "=") = true := by decide +kernel
    rw [this, b1]; exact h
  · repeat' walk_at "w"
    have : decide (("<>" : Str) = "=") = false := by decide +kernel
    rw [this, b2]; exact h
  · repeat' walk_at "w"
    have : decide (("<" : Str) = "<") = true := by decide +kernel
    rw [this, b1]; exact h
  · repeat' walk_at "w"
    have : decide ((">" : Str) = ">") = true := by decide +kernel
    rw [this, b1]; exact h
  · repeat' walk_at "w"
    have : decide (("<=" : Str) = ">") = false := by decide +kernel
    rw [this, b2]; exact h
  · repeat' walk_at "w"
    have : decide ((">=" : Str) = "<") = false := by decide +kernel
    rw [this, b2]; exact h
/-- what an operator of bits answers -/
noncomputable def Logic (op : Str) (f : Int → Int → Int) : Prop :=
  (op = "AND" ∧ f = Builtin.bitAnd) ∨ (op = "OR" ∧ f = Builtin.bitOr) ∨ (op = "XOR" ∧ f = Builtin.bitXor) ∨ (op = "EQV" ∧ f = fun x y => -1 - Builtin.bitXor x y) ∨ (op = "IMP" ∧ f = fun x y => Builtin.bitOr (-1 - x) y)
noncomputable def resL (v u : Va) (b : Int) (f : Int → Int → Int) : Except Str PV :=
  if v.isS then .error "TM" else if !fitsM v.near b then .error "OV" else if u.isS then .error "TM" else if !fitsM u.near b then .error "OV" else .ok (.int (f v.near u.near))
theorem J_logic (O : c.Ok) (hd : 14 ≤ c.d) {op : Str} {v u : Va} {b : Int} {f : Int → Int → Int} (hop : Logic op f) (hv : v.Ok) (hu : u.Ok) (h1 : 1 ≤ b) (h2 : b ≤ 16)
    (h : Res (resL v u b f) (fun p => K p ω) (fun x => X x ω)) : CallJ c (.adr 255) [.str op, v.pv, u.pv, .int b] ρ ω K X := by
  refine' J_def O ["op", "a", "b", "bits"] ["one", "other"] ["op", "a", "b", "bits", "one", "other"] [some (.str op), some (v.pv), some (u.pv), some (.int b), none, none] 13 (by omega) ?h1 ?h2 ?h3 rfl ?h4 rfl rfl ?h5
  case h1 => exact rfl
  case h2 => exact rfl
  case h3 => exact vs4 fun _ _ _ _ => rfl
  case h4 => decide +kernel
  intro c' F
  have hdF := F.dep
  repeat' walk_at "w"
  refine J_wo F.ok (by omega) hv h1 (by omega) (fun q => ?_) (fun q1 q3 => ?_) (fun q1 q3 => ?_)
  · subst q; exact h
  · unfold resL at h; rw [not_isS q1, q3] at h; exact h
  repeat' walk_at "w"
  refine J_wo F.ok (by omega) hu h1 (by omega) (fun q => ?_) (fun q2 q4 => ?_) (fun q2 q4 => ?_)
  · subst q; unfold resL at h; rw [not_isS q1, q3] at h; exact h
  · unfold resL at h; rw [not_isS q1, not_isS q2, q3, q4] at h; exact h
  unfold resL at h; rw [not_isS q1, not_isS q2, q3, q4] at h
  have h : K (.int (f v.near u.near)) ω := h
  rcases hop with ⟨rfl, rfl⟩ | ⟨rfl, rfl⟩ | ⟨rfl, rfl⟩ | ⟨rfl, rfl⟩ | ⟨rfl, rfl⟩
  · repeat' walk_at "w"
    exact h
  · repeat' walk_at "w"
    exact h
  · repeat' walk_at "w"
    exact h
  · repeat' walk_at "w"
    exact h
  · repeat' walk_at "w"
    exact h
end
end TextPJ
section TextPK
section
variable {c : Cx} {sc : Scope} {vs : List Str} {n : Nat} {ρ : Store} {ω : Om} {K : PV → Om → Prop} {X : Str → Om → Prop} {N : Store → Om → Prop} {R : PV → Om → Prop} {KB : Bool → Om → Prop} {KL : List PV → Om → Prop}
theorem cmp_scale {x y k : Int} (hk : 0 < k) : cmpI (x * k) (y * k) = cmpI x y := by
  have h : ∀ a b : Int, (a * k < b * k) ↔ a < b := fun a b => Int.mul_lt_mul_right hk
  unfold cmpI
  rw [decide_eq_decide.mpr (h y x), decide_eq_decide.mpr (h x y)]
theorem toNat_split {a e : Int} (h : -20 ≤ a) (h' : a ≤ e) : (e - a).toNat + (a + 20).toNat = (e + 20).toNat := by
  rw [← Int.toNat_add (Int.sub_nonneg_of_le h') (by omega), show e - a + (a + 20) = e + 20 by omega]
theorem cmp_min {m m' e e' : Int} (he : -20 ≤ e) (he' : -20 ≤ e') : cmpI (m * 10 ^ (e - min e e').toNat) (m' * 10 ^ (e' - min e e').toNat) = cmpI (m * 10 ^ (e + 20).toNat) (m' * 10 ^ (e' + 20).toNat) := by
  have hk := pow_pos10 (min e e' + 20).toNat
  have h0 : -20 ≤ min e e' := Int.le_min.mpr ⟨he, he'⟩
  rw [← cmp_scale hk, Int.mul_assoc, Int.mul_assoc, ← Int.pow_add, ← Int.pow_add, toNat_split h0 (Int.min_le_left _ _), toNat_split h0 (Int.min_le_right _ _)]
theorem Va.Ok.sm {v : Va} (h : v.Ok) : Sm v.m v.e := by
  cases v with
  | s => exact ⟨by decide, by decide, by decide⟩
  | i n => unfold Va.Ok at h; exact ⟨by show n.natAbs < _; omega, by show (-20 : Int) ≤ 0; decide, by show (0 : Int) ≤ 20; decide⟩
  | t m e => unfold Va.Ok at h; exact ⟨by show m.natAbs < _; omega, by show -20 ≤ e; omega, by show e ≤ 20; omega⟩
noncomputable def ordV (v u : Va) : Int := cmpI (v.m * 10 ^ (v.e + 20).toNat) (u.m * 10 ^ (u.e + 20).toNat)
theorem J_order_of (O : c.Ok) (hd : 14 ≤ c.d) {v u : Va} (hv : v.Ok) (hu : u.Ok) (hs : v.isS ≠ u.isS → X "TM" ω) (h : v.isS = u.isS → K (.int (ordV v u)) ω) : CallJ c (.adr 234) [v.pv, u.pv] ρ ω K X := by
  refine' J_def O ["a", "b"] [] ["a", "b"] [some (v.pv), some (u.pv)] 13 (by omega) ?h1 ?h2 ?h3 rfl ?h4 rfl rfl ?h5
  case h1 => exact rfl
  case h2 => exact rfl
  case h3 => exact vs2 fun _ _ => rfl
  case h4 => decide +kernel
  intro c' F
  have hdF := F.dep
  have sv := hv.sm
  have su := hu.sm
  have fin : ∀ z : Int, z = ordV v u → v.isS = u.isS → K (.int z) ω := fun z hz hq => hz ▸ h hq
  cases v with
  | s =>
    cases u with
    | s =>
      dsimp only [Va.pv]
      repeat' walk_at "w"
      exact fin _ (by decide +kernel) rfl
    | i n =>
      dsimp only [Va.pv]
      repeat' walk_at "w"
      exact hs (by intro q; cases q)
    | t m e =>
      dsimp only [Va.pv]
      repeat' walk_at "w"
      exact hs (by intro q; cases q)
  | i n =>
    cases u with
    | s =>
      dsimp only [Va.pv]
      repeat' walk_at "w"
      exact hs (by intro q; cases q)
    | i n' =>
      dsimp only [Va.pv]
      repeat' walk_at "w"
      refine J_isw_i F.ok (by omega) ⟨_, rfl, ?_⟩
      repeat' walk_at "w"
      refine J_isw_i F.ok (by omega) ⟨_, rfl, ?_⟩
      repeat' walk_at "w"
      exact fin _ (cmp_scale (k := 10 ^ 20) (by decide)).symm rfl
    | t m' e' =>
      dsimp only [Va.pv]
      repeat' walk_at "w"
      refine J_isw_i F.ok (by omega) ⟨_, rfl, ?_⟩
      repeat' walk_at "w"
      refine J_isw_t F.ok (by omega) ⟨_, rfl, ?_⟩
      repeat' walk_at "w"
      refine J_d_compare F.ok (by omega) sv su ?_
      exact fin _ (cmp_min (e := 0) (by decide) su.e1) rfl
  | t m e =>
    cases u with
    | s =>
      dsimp only [Va.pv]
      repeat' walk_at "w"
      exact hs (by intro q; cases q)
    | i n' =>
      dsimp only [Va.pv]
      repeat' walk_at "w"
      refine J_isw_t F.ok (by omega) ⟨_, rfl, ?_⟩
      repeat' walk_at "w"
      refine J_d_compare F.ok (by omega) sv su ?_
      exact fin _ (cmp_min (e' := 0) sv.e1 (by decide)) rfl
    | t m' e' =>
      dsimp only [Va.pv]
      repeat' walk_at "w"
      refine J_isw_t F.ok (by omega) ⟨_, rfl, ?_⟩
      repeat' walk_at "w"
      refine J_d_compare F.ok (by omega) sv su ?_
      exact fin _ (cmp_min sv.e1 su.e1) rfl
end
end TextPK
section TextPL
section
variable {c : Cx} {sc : Scope} {vs : List Str} {n : Nat} {ρ : Store} {ω : Om} {K : PV → Om → Prop} {X : Str → Om → Prop} {N : Store → Om → Prop} {R : PV → Om → Prop} {KB : Bool → Om → Prop} {KL : List PV → Om → Prop}
theorem J_take (O : c.Ok) (hd : 2 ≤ c.d) {b0 b1 m : Int} (h0 : 0 ≤ b0) (hm : 0 < m) (hm' : m < 10 ^ 20) (h : ∀ r b0', 0 ≤ r → r < m → 0 ≤ b0' → K (.int r) (some (b0', b1 + 1))) : CallJ c (.adr 262) [.box, .int m] ρ (some (b0, b1)) K X := by
  refine' J_def O ["box", "many"] ["digit"] ["box", "many", "digit"] [some (.box), some (.int m), none] 1 (by omega) ?h1 ?h2 ?h3 rfl ?h4 rfl rfl ?h5
  case h1 => exact rfl
  case h2 => exact rfl
  case h3 => exact vs2 fun _ _ => rfl
  case h4 => decide +kernel
  intro c' F
  have hdF := F.dep
  have hnb : NotBig m := ten_big hm' trivial
  repeat' walk_at "w"
  refine ⟨rfl, rfl, ?_⟩
  repeat' walk_at "w"
  refine Br_dec (fun h1 => ?_) (fun h1 => ?_)
  · repeat' walk_at "w"
    refine ⟨rfl, rfl, ?_⟩
    repeat' walk_at "w"
    exact h _ _ (Int.emod_nonneg _ (by omega)) (Int.emod_lt_of_pos _ hm) (Int.ediv_nonneg h0 (by omega))
  · repeat' walk_at "w"
    exact h _ _ (Int.emod_nonneg _ (by omega)) (Int.emod_lt_of_pos _ hm) h0
theorem J_drawn (O : c.Ok) (hd : 4 ≤ c.d) {b0 b1 : Int} (h0 : 0 ≤ b0) (h : ∀ m e b0' b1', (Va.t m e).Ok → 0 ≤ b0' → K (.tup [.int m, .int e]) (some (b0', b1'))) : CallJ c (.adr 276) [.box, .int 3] ρ (some (b0, b1)) K X := by
  refine' J_def O ["box", "figures"] ["number", "power"] ["box", "figures", "number", "power"] [some (.box), some (.int 3), none, none] 3 (by omega) ?h1 ?h2 ?h3 rfl ?h4 rfl rfl ?h5
  case h1 => exact rfl
  case h2 => exact rfl
  case h3 => exact vs2 fun _ _ => rfl
  case h4 => decide +kernel
  intro c' F
  have hdF := F.dep
  repeat' walk_at "w"
  refine J_take F.ok (by omega) h0 (by omega) (by decide +kernel) fun r1 c1 g1 g2 g3 => ?_
  repeat' walk_at "w"
  have hp3 : (10 : Int) ^ (1 + r1).toNat ≤ 10 ^ 3 := pow_mono (by omega)
  refine J_take F.ok (by omega) g3 (pow_pos10 _) (by omega) fun n c2 g4 g5 g6 => ?_
  repeat' walk_at "w"
  refine J_take F.ok (by omega) g6 (by omega) (by decide +kernel) fun p c3 g7 g8 g9 => ?_
  repeat' walk_at "w"
  refine S_while (fun ρ' ω' => some (c3, b1 + 1 + 1 + 1) = ω' ∧ ∃ n p : Int, ρ' = [some .box, some (.int 3), some (.int n), some (.int p)] ∧ 0 ≤ n ∧ -6 ≤ p ∧ ((p ≤ 6 ∧ n < 1000) ∨ (p ≤ 7 ∧ n < 100) ∨ (p ≤ 8 ∧ n < 10))) (fun ρ' _ => (gi ρ' 2).toNat) ⟨rfl, n, _, rfl, by omega⟩ ?_
  rintro _ _ ⟨rfl, n, p, rfl, k1, k2, k3⟩
  have fin : ∀ N' : Store → Om → Prop, ∀ st : List Stmt, True := fun _ _ => trivial
  repeat' walk_at "w"
  refine Br_dec (fun h5 => ?_) (fun h5 => ?_)
  · repeat' walk_at "w"
    refine Br_dec (fun h6 => ?_) (fun h6 => ?_)
    · repeat' walk_at "w"
      refine ⟨⟨rfl, _, _, rfl, by omega⟩, ?_⟩
      show (n / 10).toNat < n.toNat
      omega
    · repeat' walk_at "w"
      refine Br_dec (fun h7 => by omega) (fun h7 => ?_)
      repeat' walk_at "w"
      refine J_take F.ok (by omega) g9 (by omega) (by decide +kernel) fun r4 c4 g10 g11 g12 => ?_
      repeat' walk_at "w"
      refine Br_dec (fun h8 => ?_) (fun h8 => ?_)
      · repeat' walk_at "w"
        exact h _ _ _ _ (by unfold Va.Ok; omega) g12
      · repeat' walk_at "w"
        exact h _ _ _ _ (by unfold Va.Ok; omega) g12
  · repeat' walk_at "w"
    refine Br_dec (fun h7 => ?_) (fun h7 => by omega)
    repeat' walk_at "w"
    exact h _ _ _ _ (by unfold Va.Ok; omega) g9
theorem J_law_value (O : c.Ok) (hd : 6 ≤ c.d) {b0 b1 b : Int} (h0 : 0 ≤ b0) (h1 : 4 ≤ b) (h2 : b ≤ 16) (h : ∀ (v : Va) (b0' b1' : Int), v.Ok → (∀ n, v = .i n → fitsM n b = true) → 0 ≤ b0' → K v.pv (some (b0', b1'))) : CallJ c (.adr 325) [.box, .int b] ρ (some (b0, b1)) K X := by
  refine' J_def O ["box", "bits"] ["form"] ["box", "bits", "form"] [some (.box), some (.int b), none] 5 (by omega) ?h1 ?h2 ?h3 rfl ?h4 rfl rfl ?h5
  case h1 => exact rfl
  case h2 => exact rfl
  case h3 => exact vs2 fun _ _ => rfl
  case h4 => decide +kernel
  intro c' F
  have hdF := F.dep
  repeat' walk_at "w"
  refine J_take F.ok (by omega) h0 (by omega) (by decide +kernel) fun r1 c1 g1 g2 g3 => ?_
  repeat' walk_at "w"
  have hp : (2 : Int) ^ b.toNat = 2 * 2 ^ (b - 1).toNat := by
    rw [show b.toNat = (b - 1).toNat + 1 by omega, Int.pow_succ, Int.mul_comm]
  have hp1 : (0 : Int) < 2 ^ (b - 1).toNat := Int.pow_pos (by decide)
  have hp2 : (2 : Int) ^ (b - 1).toNat ≤ 2 ^ 15 := by
    have h : 2 ^ (b - 1).toNat ≤ 2 ^ 15 := Nat.pow_le_pow_right (by decide) (by omega)
    exact_mod_cast h
  refine Br_dec (fun h5 => ?_) (fun h5 => ?_)
  · repeat' walk_at "w"
    refine J_take F.ok (by omega) g3 (by omega) (by omega) fun r2 c2 g4 g5 g6 => ?_
    repeat' walk_at "w"
    refine h (.i _) _ _ (by unfold Va.Ok; omega) (fun n q => ?_) g6
    cases q
    unfold fitsM
    rw [decide_eq_true (by omega), decide_eq_true (by omega)]; rfl
  · repeat' walk_at "w"
    refine Br_dec (fun h6 => ?_) (fun h6 => ?_)
    · repeat' walk_at "w"
      exact h .s _ _ trivial (fun n q => by cases q) g3
    · repeat' walk_at "w"
      exact J_drawn F.ok (by omega) g3 fun m e b0' b1' hok hb => h (.t m e) _ _ hok (fun n q => by cases q) hb
end
end TextPL
section TextPM
section
variable {c : Cx} {sc : Scope} {vs : List Str} {n : Nat} {ρ : Store} {ω : Om} {K : PV → Om → Prop} {X : Str → Om → Prop} {N : Store → Om → Prop} {R : PV → Om → Prop} {KB : Bool → Om → Prop} {KL : List PV → Om → Prop}
theorem kept_of {n b s j : Int} (hf : fitsM n b = false) (hj : 0 ≤ j) (h : s * 10 ^ j.toNat = n) (h1 : s % 10 ≠ 0) : kept n b = .tup [.int s, .int j] := by
  unfold kept
  rw [hf]
  have hp := pow_pos10 j.toNat
  have e1 : n.natAbs = s.natAbs * 10 ^ j.toNat := by
    rw [← h, Int.natAbs_mul]; congr 1
  obtain ⟨r1, r2⟩ := strip_unique' e1 (by omega)
  have e3 : signed n s.natAbs = s := by
    unfold signed
    by_cases q : s < 0
    · have : n < 0 := by rw [← h]; exact Int.mul_neg_of_neg_of_pos q hp
      rw [if_pos this]; omega
    · have : 0 ≤ n := by rw [← h]; exact Int.mul_nonneg (by omega) (by omega)
      rw [if_neg (by omega)]; omega
  show PV.tup [.int (signed n (strip n.natAbs n.natAbs).1), .int ((strip n.natAbs n.natAbs).2 : Nat)] = _
  rw [r1, r2, e3]
  have : ((j.toNat : Nat) : Int) = j := by omega
  rw [this]
theorem J_kept (O : c.Ok) (hd : 2 ≤ c.d) {n b : Int} (h1 : 1 ≤ b) (h2 : b ≤ 64) (h : K (kept n b) ω) : CallJ c (.adr 290) [.int n, .int b] ρ ω K X := by
  refine' J_def O ["number", "bits"] ["power"] ["number", "bits", "power"] [some (.int n), some (.int b), none] 1 (by omega) ?h1 ?h2 ?h3 rfl ?h4 rfl rfl ?h5
  case h1 => exact rfl
  case h2 => exact rfl
  case h3 => exact vs2 fun _ _ => rfl
  case h4 => decide +kernel
  intro c' F
  have hdF := F.dep
  have hp1 : (0 : Int) < 2 ^ (b - 1).toNat := Int.pow_pos (by decide)
  have keyT : fitsM n b = true → kept n b = .int n := fun q => by unfold kept; rw [q]; rfl
  have loop : fitsM n b = false → n ≠ 0 := fun q z => by rw [z, fits_zero] at q; cases q
  have fin : ∀ s j : Int, fitsM n b = false → 0 ≤ j → s * 10 ^ j.toNat = n → s % 10 ≠ 0 → K (.tup [.int s, .int j]) ω := fun s j q a b' g => by rw [← kept_of q a b' g]; exact h
  have hfit : fitsM n b = (decide (-(2 ^ (b - 1).toNat) ≤ n) && decide (n < 2 ^ (b - 1).toNat)) := rfl
  refine SS_mid (fun ρ' ω' => ω = ω' ∧ ρ' = [some (.int n), some (.int b), none] ∧ fitsM n b = false) ?_ ?_
  · repeat' walk_at "w"
    refine Br_dec (fun h5 => ?_) (fun h5 => ?_)
    · repeat' walk_at "w"
      refine Br_dec (fun h6 => ?_) (fun h6 => ?_)
      · repeat' walk_at "w"
        rw [keyT (by rw [hfit, decide_eq_true (by omega), decide_eq_true h6]; rfl)] at h
        exact h
      · repeat' walk_at "w"
        exact ⟨rfl, rfl, by rw [hfit, decide_eq_false h6, Bool.and_false]⟩
    · repeat' walk_at "w"
      exact ⟨rfl, rfl, by rw [hfit, decide_eq_false (by omega), Bool.false_and]⟩
  rintro _ _ ⟨rfl, rfl, hf⟩
  have hn0 := loop hf
  repeat' walk_at "w"
  refine S_while (fun ρ' ω' => ω = ω' ∧ ∃ s j : Int, ρ' = [some (.int s), some (.int b), some (.int j)] ∧ 0 ≤ j ∧ s ≠ 0 ∧ s * 10 ^ j.toNat = n) (fun ρ' _ => (gi ρ' 0).natAbs) ⟨rfl, n, 0, rfl, by omega, hn0, by show n * 1 = n; omega⟩ ?_
  rintro _ _ ⟨rfl, s, j, rfl, k1, k2, k3⟩
  repeat' walk_at "w"
  refine Br_dec (fun h5 => ?_) (fun h5 => ?_)
  · repeat' walk_at "w"
    refine ⟨⟨rfl, _, _, rfl, by omega, by omega, ?_⟩, ?_⟩
    · rw [show (j + 1).toNat = j.toNat + 1 by omega, Int.pow_succ, Int.mul_comm (10 ^ j.toNat) 10, ← Int.mul_assoc, Int.ediv_mul_cancel (Int.dvd_of_emod_eq_zero h5)]
      exact k3
    · show (s / 10).natAbs < s.natAbs
      omega
  · repeat' walk_at "w"
    exact fin s j hf k1 k3 h5
theorem J_lnear (O : c.Ok) (hd : 10 ≤ c.d) {v : Va} (hv : v.Ok) (hs : v ≠ .s) (h : K (.int v.near) ω) : CallJ c (.adr 297) [v.pv] ρ ω K X := by
  refine' J_def O ["value"] ["unit", "low", "rest"] ["value", "unit", "low", "rest"] [some (v.pv), none, none, none] 9 (by omega) ?h1 ?h2 ?h3 rfl ?h4 rfl rfl ?h5
  case h1 => exact rfl
  case h2 => exact rfl
  case h3 => exact vs1 fun _ => rfl
  case h4 => decide +kernel
  intro c' F
  have hdF := F.dep
  cases v with
  | s => exact absurd rfl hs
  | i n =>
    dsimp only [Va.pv]
    repeat' walk_at "w"
    exact h
  | t m e =>
    dsimp only [Va.pv]
    unfold Va.Ok at hv
    have h : K (.int (nearM m e)) ω := h
    repeat' walk_at "w"
    refine Br_dec (fun h1 => ?_) (fun h1 => ?_)
    · repeat' walk_at "w"
      refine b_mul (mulokL (by omega)) ?_
      repeat' walk_at "w"
      rw [nearM, if_pos h1] at h; exact h
    rw [nearM, if_neg (by omega)] at h
    have hU := pow_pos10 (0 - e).toNat
    have hlow : (m.natAbs : Int) / 10 ^ (0 - e).toNat ≤ m.natAbs := Int.ediv_le_self _ (by omega)
    have hlow0 : 0 ≤ (m.natAbs : Int) / 10 ^ (0 - e).toNat := Int.ediv_nonneg (by omega) (by omega)
    have hr : rnd m.natAbs (-e) = if 2 * ((m.natAbs : Int) - (m.natAbs : Int) / 10 ^ (0 - e).toNat * 10 ^ (0 - e).toNat) > 10 ^ (0 - e).toNat ∨ (2 * ((m.natAbs : Int) - (m.natAbs : Int) / 10 ^ (0 - e).toNat * 10 ^ (0 - e).toNat) = 10 ^ (0 - e).toNat ∧ ((m.natAbs : Int) / 10 ^ (0 - e).toNat) % 2 = 1) then (m.natAbs : Int) / 10 ^ (0 - e).toNat + 1 else (m.natAbs : Int) / 10 ^ (0 - e).toNat := by
      rw [rnd, if_neg (by omega), Int.emod_def, Int.mul_comm (10 ^ (-e).toNat), Int.zero_sub]
    repeat' walk_at "w"
    refine b_mul (mulokL (by omega)) ?_
    refine b_sub (b_mul (.of_left (by decide +kernel)) ?_)
    refine SS_mid (fun ρ' ω' => ω = ω' ∧ ∃ x y, ρ' = [some (.tup [.int m, .int e]), x, some (.int (rnd m.natAbs (-e))), y]) ?_ ?_
    · repeat' walk_at "w"
      refine Br_dec (fun h3 => ?_) (fun h3 => ?_)
      · repeat' walk_at "w"
        rw [hr, if_pos (.inl h3)]
        exact ⟨rfl, _, _, rfl⟩
      repeat' walk_at "w"
      refine Br_dec (fun h4 => ?_) (fun h4 => ?_)
      · repeat' walk_at "w"
        refine Br_dec (fun h5 => ?_) (fun h5 => ?_)
        · repeat' walk_at "w"
          rw [hr, if_pos (.inr ⟨h4, h5⟩)]
          exact ⟨rfl, _, _, rfl⟩
        · repeat' walk_at "w"
          rw [hr, if_neg (by omega)]
          exact ⟨rfl, _, _, rfl⟩
      · repeat' walk_at "w"
        rw [hr, if_neg (by omega)]
        exact ⟨rfl, _, _, rfl⟩
    rintro _ _ ⟨rfl, x, y, rfl⟩
    repeat' walk_at "w"
    refine Br_dec (fun h6 => ?_) (fun h6 => ?_)
    · rw [if_neg (by omega)] at h
      repeat' walk_at "w"
      exact h
    · repeat' walk_at "w"
      by_cases h7 : m < 0
      · rw [if_pos h7] at h
        rw [Int.zero_sub]; exact h
      · rw [if_neg h7] at h
        obtain rfl : m = 0 := by omega
        have : rnd ((0 : Int).natAbs : Int) (-e) = 0 := rnd_exact (q := 0) (by omega) (by rw [Int.zero_mul]; rfl)
        rw [this] at h ⊢
        exact h
end
end TextPM
section TextPN
section
variable {c : Cx} {sc : Scope} {vs : List Str} {n : Nat} {ρ : Store} {ω : Om} {K : PV → Om → Prop} {X : Str → Om → Prop} {N : Store → Om → Prop} {R : PV → Om → Prop} {KB : Bool → Om → Prop} {KL : List PV → Om → Prop}
noncomputable def errP (r : Except Str PV) : PV := match r with
  | .error x => .str ("!" ++ x)
  | .ok p => p
noncomputable def resW (early : Bool) (v u : Va) (b : Int) : Except Str PV :=
  if early && (v.isS || u.isS) then .error "TM" else if v.isS then .error "TM" else if !fitsM v.near b then .error "OV" else if u.isS then .error "TM" else if !fitsM u.near b then .error "OV" else .ok (.lst [.int v.near, .int u.near])
theorem isS_of {v : Va} (h : v.isS = false) : v ≠ .s := fun q => by rw [q] at h; cases h
theorem J_wholes (O : c.Ok) (hd : 12 ≤ c.d) {v u : Va} {b : Int} {early : Bool} (hv : v.Ok) (hu : u.Ok) (h1 : 1 ≤ b) (h2 : b ≤ 64) (h : K (errP (resW early v u b)) ω) : CallJ c (.adr 304) [v.pv, u.pv, .int b, .bool early] ρ ω K X := by
  refine' J_def O ["a", "b", "bits", "is_early"] ["one"] ["a", "b", "bits", "is_early", "one"] [some (v.pv), some (u.pv), some (.int b), some (.bool early), none] 11 (by omega) ?h1 ?h2 ?h3 rfl ?h4 rfl rfl ?h5
  case h1 => exact rfl
  case h2 => exact rfl
  case h3 => exact vs4 fun _ _ _ _ => rfl
  case h4 => decide +kernel
  intro c' F
  have hdF := F.dep
  have hfit : ∀ n, fitsM n b = (decide (-(2 ^ (b - 1).toNat) ≤ n) && decide (n < 2 ^ (b - 1).toNat)) := fun _ => rfl
  refine SS_mid (fun ρ' ω' => ω = ω' ∧ ρ' = [some v.pv, some u.pv, some (.int b), some (.bool early), none] ∧ (early && (v.isS || u.isS)) = false) ?_ ?_
  · repeat' walk_at "w"
    cases early with
    | false =>
      repeat' walk_at "w"
      exact ⟨rfl, rfl, rfl⟩
    | true =>
      repeat' walk_at "w"
      cases hS : v.isS with
      | true =>
        repeat' walk_at "w"
        unfold resW at h; rw [hS] at h
        exact h
      | false =>
        repeat' walk_at "w"
        cases hS2 : u.isS with
        | true =>
          repeat' walk_at "w"
          unfold resW at h; rw [hS, hS2] at h
          exact h
        | false =>
          repeat' walk_at "w"
          exact ⟨rfl, rfl, rfl⟩
  rintro _ _ ⟨rfl, rfl, hE⟩
  unfold resW at h; rw [hE] at h
  have h : K (errP (if v.isS then .error "TM" else if !fitsM v.near b then .error "OV" else if u.isS then .error "TM" else if !fitsM u.near b then .error "OV" else .ok (.lst [.int v.near, .int u.near]))) ω := h
  walk_at "w"
  refine S_for_tup F.ok (i := 4) (by rw [F.vars]; exact rfl) (.inl (by rw [F.cs]; exact rfl)) (by intro _; exact rfl) ?_
  repeat' walk_at "w"
  cases hSv : v.isS with
  | true =>
    rw [hSv] at h
    repeat' walk_at "w"
    exact h
  | false =>
  repeat' walk_at "w"
  refine J_lnear F.ok (by omega) hv (isS_of hSv) ?_
  repeat' walk_at "w"
  cases hFv : fitsM v.near b with
  | false =>
    have h : K (.str "!OV") ω := by
      rw [hSv, hFv] at h; exact h
    refine Br_dec (fun h5 => ?_) (fun h5 => ?_)
    · repeat' walk_at "w"
      refine Br_dec (fun h6 => ?_) (fun h6 => ?_)
      · rw [hfit, decide_eq_true (by omega), decide_eq_true h6] at hFv; cases hFv
      · repeat' walk_at "w"
        exact h
    · repeat' walk_at "w"
      exact h
  | true =>
  have hGv := hFv
  rw [hfit, Bool.and_eq_true, decide_eq_true_eq, decide_eq_true_eq] at hGv
  refine Br_dec (fun h5 => ?_) (fun h5 => by omega)
  repeat' walk_at "w"
  refine Br_dec (fun h6 => ?_) (fun h6 => by omega)
  repeat' walk_at "w"
  cases hSu : u.isS with
  | true =>
    rw [hSv, hFv, hSu] at h
    repeat' walk_at "w"
    exact h
  | false =>
  repeat' walk_at "w"
  refine J_lnear F.ok (by omega) hu (isS_of hSu) ?_
  repeat' walk_at "w"
  cases hFu : fitsM u.near b with
  | false =>
    have h : K (.str "!OV") ω := by
      rw [hSv, hFv, hSu, hFu] at h; exact h
    refine Br_dec (fun h5 => ?_) (fun h5 => ?_)
    · repeat' walk_at "w"
      refine Br_dec (fun h6 => ?_) (fun h6 => ?_)
      · rw [hfit, decide_eq_true (by omega), decide_eq_true h6] at hFu; cases hFu
      · repeat' walk_at "w"
        exact h
    · repeat' walk_at "w"
      exact h
  | true =>
  have hGu := hFu
  rw [hfit, Bool.and_eq_true, decide_eq_true_eq, decide_eq_true_eq] at hGu
  refine Br_dec (fun h5 => ?_) (fun h5 => by omega)
  repeat' walk_at "w"
  refine Br_dec (fun h6 => ?_) (fun h6 => by omega)
  repeat' walk_at "w"
  refine J_lnear F.ok (by omega) hv (isS_of hSv) ?_
  repeat' walk_at "w"
  refine J_lnear F.ok (by omega) hu (isS_of hSu) ?_
  repeat' walk_at "w"
  rw [hSv, hFv, hSu, hFu] at h; exact h
end
end TextPN
section TextPO
noncomputable def tAnd (a b : Int) : Int := a * b
noncomputable def tOr (a b : Int) : Int := if b > a then b else a
noncomputable def tXor (a b : Int) : Int := (a + b) % 2
noncomputable def tEqv (a b : Int) : Int := if decide (a = b) = true then 1 else 0
noncomputable def tImp (a b : Int) : Int := if b > 1 - a then b else 1 - a
noncomputable def Bits (op : Str) (t : Int → Int → Int) : Prop := (op = "AND" ∧ t = tAnd) ∨ (op = "OR" ∧ t = tOr) ∨ (op = "XOR" ∧ t = tXor) ∨ (op = "EQV" ∧ t = tEqv) ∨ (op = "IMP" ∧ t = tImp)
noncomputable def bsum (t : Int → Int → Int) (a b : Int) : Nat → Int
  | 0 => 0
  | k + 1 => bsum t a b k + t (a / 2 ^ k % 2) (b / 2 ^ k % 2) * 2 ^ k
noncomputable def bitsM (t : Int → Int → Int) (a b : Int) (n : Nat) : Int := bsum t a b (n - 1) + t (a / 2 ^ (n - 1) % 2) (b / 2 ^ (n - 1) % 2) * (0 - 2 ^ (n - 1))
noncomputable def acc (t : Int → Int → Int) (a b : Int) (n k : Nat) : Int := if k < n then bsum t a b k else bitsM t a b n
section
variable {c : Cx} {sc : Scope} {vs : List Str} {n : Nat} {ρ : Store} {ω : Om} {K : PV → Om → Prop} {X : Str → Om → Prop} {N : Store → Om → Prop} {R : PV → Om → Prop} {KB : Bool → Om → Prop} {KL : List PV → Om → Prop}
theorem J_bits (O : c.Ok) (hd : 12 ≤ c.d) {op : Str} {t : Int → Int → Int} {x y : Int} {b : Nat} (hop : Bits op t) (h1 : 1 ≤ b) (h2 : b ≤ 16) (h : K (.int (bitsM t x y b)) ω) : CallJ c (.adr 311) [.str op, .int x, .int y, .int b] ρ ω K X := by
  refine' J_def O ["op", "a", "b", "bits"] ["found", "place", "one", "other", "told"] ["op", "a", "b", "bits", "found", "place", "one", "other", "told"] [some (.str op), some (.int x), some (.int y), some (.int b), none, none, none, none, none] 11 (by omega) ?h1 ?h2 ?h3 rfl ?h4 rfl rfl ?h5
  case h1 => exact rfl
  case h2 => exact rfl
  case h3 => exact vs4 fun _ _ _ _ => rfl
  case h4 => decide +kernel
  intro c' F
  have hdF := F.dep
  repeat' walk_at "w"
  refine S_forR F.ok (i := 5) (by rw [F.vars]; exact rfl) (.inl (by rw [F.cs]; exact rfl)) (by rw [F.cs]; exact rfl) rfl (fun k ρ' ω' => ω = ω' ∧ ∃ p q r s, ρ' = [some (.str op), some (.int x), some (.int y), some (.int b), some (.int (acc t x y b k)), p, q, r, s]) ?_
  repeat' walk_at "w"
  refine ⟨by omega, ⟨rfl, none, none, none, none, ?_⟩, ?_, ?_⟩
  · rw [acc, if_pos (by omega)]; exact rfl
  · rintro k hk _ _ ⟨rfl, p, q, r, s, rfl⟩
    refine ⟨Nat.le_of_ble_eq_true rfl, ?_⟩
    repeat' walk_at "w"
    have hx0 : 0 ≤ x / 2 ^ k % 2 ∧ x / 2 ^ k % 2 < 2 := by omega
    have hy0 : 0 ≤ y / 2 ^ k % 2 ∧ y / 2 ^ k % 2 < 2 := by omega
    have hacc : acc t x y b (k + 1) = acc t x y b k + t (x / 2 ^ k % 2) (y / 2 ^ k % 2) * (if k + 1 < b then 2 ^ k else 0 - 2 ^ k) := by
      unfold acc
      rw [if_pos hk]
      by_cases q : k + 1 < b
      · rw [if_pos q, if_pos q]; rfl
      · rw [if_neg q, if_neg q, show b = k + 1 by omega]; rfl
    have ht : (t (x / 2 ^ k % 2) (y / 2 ^ k % 2)).natAbs < 2 ^ 64 := by
      generalize x / 2 ^ k % 2 = x1 at hx0
      generalize y / 2 ^ k % 2 = y1 at hy0
      have hx1 : x1 = 0 ∨ x1 = 1 := by omega
      have hy1 : y1 = 0 ∨ y1 = 1 := by omega
      rcases hop with ⟨_, rfl⟩ | ⟨_, rfl⟩ | ⟨_, rfl⟩ | ⟨_, rfl⟩ | ⟨_, rfl⟩ <;> rcases hx1 with rfl | rfl <;> rcases hy1 with rfl | rfl <;> decide
    have vx : ∀ pos, SX c' (eval (.Name "one" pos) c'.env) _ ω (x / 2 ^ k % 2) := fun pos => SX_var F.ok (j := 6) (by rw [F.vars]; exact rfl) rfl (ρ := (setAll ([some (PV.str op), some (PV.int x), some (PV.int y), some (PV.int ↑b), some (PV.int (acc t x y b k)), p, q, r, s].set 5 (some (PV.int ↑k))) [0 + 1 + 1 + 1 + 1 + 1 + 1, 0 + 1 + 1 + 1 + 1 + 1 + 1 + 1].reverse [PV.int (x / 2 ^ (k : Int).toNat % 2), PV.int (y / 2 ^ (k : Int).toNat % 2)].reverse)) rfl
    have vy : ∀ pos, SX c' (eval (.Name "other" pos) c'.env) _ ω (y / 2 ^ k % 2) := fun pos => SX_var F.ok (j := 7) (by rw [F.vars]; exact rfl) rfl (ρ := (setAll ([some (PV.str op), some (PV.int x), some (PV.int y), some (PV.int ↑b), some (PV.int (acc t x y b k)), p, q, r, s].set 5 (some (PV.int ↑k))) [0 + 1 + 1 + 1 + 1 + 1 + 1, 0 + 1 + 1 + 1 + 1 + 1 + 1 + 1].reverse [PV.int (x / 2 ^ (k : Int).toNat % 2), PV.int (y / 2 ^ (k : Int).toNat % 2)].reverse)) rfl
    refine SE_pick5 F.ok (i1 := tAnd (x / 2 ^ k % 2) (y / 2 ^ k % 2)) (i2 := tOr (x / 2 ^ k % 2) (y / 2 ^ k % 2)) (i3 := tXor (x / 2 ^ k % 2) (y / 2 ^ k % 2)) (i4 := tEqv (x / 2 ^ k % 2) (y / 2 ^ k % 2)) (i5 := tImp (x / 2 ^ k % 2) (y / 2 ^ k % 2)) (r := t (x / 2 ^ k % 2) (y / 2 ^ k % 2)) (j := 0)
      ⟨SX_bin (vx _) (vy _) ⟨mulokL (by omega), rfl⟩, SX_max F.ok rfl rfl (by rw [F.cs]; exact rfl) (vx _) (vy _), SX_bin (SX_bin (vx _) (vy _) rfl) SX_const (b_modp (by decide) rfl), SX_intEq F.ok rfl (by rw [F.cs]; exact rfl) (vx _) (vy _), SX_max F.ok rfl rfl (by rw [F.cs]; exact rfl) (SX_bin SX_const (vx _) rfl) (vy _), trivial⟩
      (by rw [F.vars]; exact rfl) rfl rfl ?_ ?_
    · rcases hop with ⟨rfl, rfl⟩ | ⟨rfl, rfl⟩ | ⟨rfl, rfl⟩ | ⟨rfl, rfl⟩ | ⟨rfl, rfl⟩
      · exact .inl ⟨rfl, rfl⟩
      · exact .inr (.inl ⟨rfl, rfl⟩)
      · exact .inr (.inr (.inl ⟨rfl, rfl⟩))
      · exact .inr (.inr (.inr (.inl ⟨rfl, rfl⟩)))
      · exact .inr (.inr (.inr (.inr ⟨rfl, rfl⟩)))
    repeat' walk_at "w"
    refine Br_dec (fun h3 => ?_) (fun h3 => ?_)
    · repeat' walk_at "w"
      refine b_mul (mulokL ht) ?_
      repeat' walk_at "w"
      rw [hacc, if_pos (by omega)]
      exact ⟨rfl, _, _, _, _, rfl⟩
    · repeat' walk_at "w"
      refine b_mul (mulokL ht) ?_
      repeat' walk_at "w"
      rw [hacc, if_neg (by omega)]
      exact ⟨rfl, _, _, _, _, rfl⟩
  · rintro _ _ ⟨rfl, p, q, r, s, rfl⟩
    repeat' walk_at "w"
    have e1 : acc t x y b b = bitsM t x y b := by rw [acc, if_neg (by omega)]
    rw [e1]; exact h
end
end TextPO
section TextPP
structure RZ (f t : Int → Int → Int) : Prop where
  r : ∀ x y, f x y = 2 * f (x / 2) (y / 2) + t (x % 2) (y % 2)
  z : ∀ x y, (x = 0 ∨ x = -1) → (y = 0 ∨ y = -1) → f x y = -(t (x % 2) (y % 2))
theorem t01 {P : Int → Int → Prop} (h00 : P 0 0) (h01 : P 0 1) (h10 : P 1 0) (h11 : P 1 1) (x y : Int) : P (x % 2) (y % 2) := by
  rcases Int.emod_two_eq x with h | h <;> rcases Int.emod_two_eq y with h' | h' <;> rw [h, h'] <;> assumption
theorem z01 {P : Int → Int → Prop} (h00 : P 0 0) (h01 : P 0 (-1)) (h10 : P (-1) 0) (h11 : P (-1) (-1)) (x y : Int) (hx : x = 0 ∨ x = -1) (hy : y = 0 ∨ y = -1) : P x y := by
  rcases hx with rfl | rfl <;> rcases hy with rfl | rfl <;> assumption
theorem or_and (x y : Int) : Builtin.bitOr x y = x + y - Builtin.bitAnd x y := by
  rw [← Int.sub_add_cancel (Builtin.bitOr x y) (Builtin.bitAnd x y), show Builtin.bitOr x y - Builtin.bitAnd x y = _ from bitXor_and x y]; omega
theorem halves (x : Int) : x = 2 * (x / 2) + x % 2 := (Int.mul_ediv_add_emod x 2).symm
theorem rz_and : RZ Builtin.bitAnd tAnd := by
  refine ⟨fun x y => ?_, z01 (by decide +kernel) (by decide +kernel) (by decide +kernel) (by decide +kernel)⟩
  rw [kbt_halves]
  exact congrArg _ (t01 (P := fun r s => (if r = 1 ∧ s = 1 then (1 : Int) else 0) = tAnd r s) rfl rfl rfl rfl x y)
theorem rz_or : RZ Builtin.bitOr tOr := by
  refine ⟨fun x y => ?_, z01 (by decide +kernel) (by decide +kernel) (by decide +kernel) (by decide +kernel)⟩
  have e := t01 (P := fun r s => tOr r s = r + s - tAnd r s) rfl rfl rfl rfl x y
  have hx := halves x
  have hy := halves y
  rw [or_and, or_and, rz_and.r x y, e]
  generalize Builtin.bitAnd (x / 2) (y / 2) = w at *
  generalize tAnd (x % 2) (y % 2) = a at *
  generalize x / 2 = q at *
  generalize y / 2 = p at *
  generalize x % 2 = r at *
  generalize y % 2 = s at *
  omega
theorem rz_xor : RZ Builtin.bitXor tXor := by
  refine ⟨fun x y => ?_, z01 (by decide +kernel) (by decide +kernel) (by decide +kernel) (by decide +kernel)⟩
  have e := t01 (P := fun r s => tXor r s = r + s - 2 * tAnd r s) rfl rfl rfl rfl x y
  have hx := halves x
  have hy := halves y
  rw [bitXor_and, bitXor_and, rz_and.r x y, e]
  generalize Builtin.bitAnd (x / 2) (y / 2) = w at *
  generalize tAnd (x % 2) (y % 2) = a at *
  generalize x / 2 = q at *
  generalize y / 2 = p at *
  generalize x % 2 = r at *
  generalize y % 2 = s at *
  omega
theorem rz_eqv : RZ (fun x y => -1 - Builtin.bitXor x y) tEqv := by
  refine ⟨fun x y => ?_, z01 (by decide +kernel) (by decide +kernel) (by decide +kernel) (by decide +kernel)⟩
  show -1 - Builtin.bitXor x y = 2 * (-1 - Builtin.bitXor (x / 2) (y / 2)) + _
  rw [rz_xor.r, t01 (P := fun r s => tEqv r s = 1 - tXor r s) rfl rfl rfl rfl x y]
  generalize Builtin.bitXor (x / 2) (y / 2) = w
  generalize tXor (x % 2) (y % 2) = a
  omega
theorem rz_imp : RZ (fun x y => Builtin.bitOr (-1 - x) y) tImp := by
  refine ⟨fun x y => ?_, z01 (by decide +kernel) (by decide +kernel) (by decide +kernel) (by decide +kernel)⟩
  show Builtin.bitOr (-1 - x) y = 2 * Builtin.bitOr (-1 - x / 2) (y / 2) + _
  rw [rz_or.r, show (-1 - x) / 2 = -1 - x / 2 by omega, show (-1 - x) % 2 = 1 - x % 2 by omega, t01 (P := fun r s => tOr (1 - r) s = tImp r s) rfl rfl rfl rfl x y]
theorem RZ.sum {f t : Int → Int → Int} (h : RZ f t) (x y : Int) : ∀ n : Nat, f x y = bsum t x y n + f (x / 2 ^ n) (y / 2 ^ n) * 2 ^ n
  | 0 => by simp [bsum]
  | n + 1 => by
    rw [h.sum x y n, h.r (x / 2 ^ n) (y / 2 ^ n), bsum]
    have e : ∀ z : Int, z / 2 ^ n / 2 = z / 2 ^ (n + 1) := fun z => by
      rw [Int.pow_succ, Int.ediv_ediv_of_nonneg (Int.le_of_lt (Int.pow_pos (by decide)))]
    rw [e, e, Int.add_mul, Int.pow_succ, Int.mul_comm 2, Int.mul_assoc, Int.mul_comm 2 (2 ^ n)]
    omega
theorem half_sign {x : Int} {b : Nat} (h : fitsM x b = true) : x / 2 ^ (b - 1) = 0 ∨ x / 2 ^ (b - 1) = -1 := by
  unfold fitsM at h
  rw [Bool.and_eq_true, decide_eq_true_eq, decide_eq_true_eq, show ((b : Int) - 1).toNat = b - 1 by omega] at h
  have hp : (0 : Int) < 2 ^ (b - 1) := Int.pow_pos (by decide)
  have h1 : -1 ≤ x / 2 ^ (b - 1) := by
    rw [Int.le_ediv_iff_mul_le hp]; omega
  have h2 : x / 2 ^ (b - 1) < 1 := by
    rw [Int.ediv_lt_iff_lt_mul hp]; omega
  omega
theorem RZ.bits {f t : Int → Int → Int} (h : RZ f t) {x y : Int} {b : Nat} (hx : fitsM x b = true) (hy : fitsM y b = true) : bitsM t x y b = f x y := by
  rw [h.sum x y (b - 1), h.z _ _ (half_sign hx) (half_sign hy)]
  unfold bitsM
  rw [Int.mul_sub, Int.mul_zero, Int.neg_mul]
  omega
end TextPP
section TextPQ
section
variable {c : Cx} {sc : Scope} {vs : List Str} {n : Nat} {ρ : Store} {ω : Om} {K : PV → Om → Prop} {X : Str → Om → Prop} {N : Store → Om → Prop} {R : PV → Om → Prop} {KB : Bool → Om → Prop} {KL : List PV → Om → Prop}
theorem J_due_i (O : c.Ok) (hd : 14 ≤ c.d) {op : Str} {x y r b : Int} (hop : Arith op x y r) (hx : x.natAbs < 2 ^ 64) (h1 : 1 ≤ b) (h2 : b ≤ 64) (h : K (kept r b) ω) : CallJ c (.adr 318) [.str op, .int x, .int y, .int b] ρ ω K X := by
  refine' J_def O ["op", "a", "b", "bits"] ["told", "one", "other", "whole"] ["op", "a", "b", "bits", "told", "one", "other", "whole"] [some (.str op), some (.int x), some (.int y), some (.int b), none, none, none, none] 13 (by omega) ?h1 ?h2 ?h3 rfl ?h4 rfl rfl ?h5
  case h1 => exact rfl
  case h2 => exact rfl
  case h3 => exact vs4 fun _ _ _ _ => rfl
  case h4 => decide +kernel
  intro c' F
  have hdF := F.dep
  rcases hop with ⟨rfl, rfl⟩ | ⟨rfl, rfl⟩ | ⟨rfl, rfl⟩
  · repeat' walk_at "w"
    exact J_kept F.ok (by omega) h1 h2 h
  · repeat' walk_at "w"
    exact J_kept F.ok (by omega) h1 h2 h
  · repeat' walk_at "w"
    refine b_mul (mulokL hx) ?_
    repeat' walk_at "w"
    exact J_kept F.ok (by omega) h1 h2 h
theorem J_due_p (O : c.Ok) (hd : 14 ≤ c.d) {x b : Int} {m : Nat} (hm : m ≤ 4) (hx : x.natAbs < 2 ^ 64) (h1 : 1 ≤ b) (h2 : b ≤ 64) (h : K (kept (x ^ m) b) ω) : CallJ c (.adr 318) [.str "^", .int x, .int m, .int b] ρ ω K X := by
  refine' J_def O ["op", "a", "b", "bits"] ["told", "one", "other", "whole"] ["op", "a", "b", "bits", "told", "one", "other", "whole"] [some (.str "^"), some (.int x), some (.int m), some (.int b), none, none, none, none] 13 (by omega) ?h1 ?h2 ?h3 rfl ?h4 rfl rfl ?h5
  case h1 => exact rfl
  case h2 => exact rfl
  case h3 => exact vs4 fun _ _ _ _ => rfl
  case h4 => decide +kernel
  intro c' F
  have hdF := F.dep
  repeat' walk_at "w"
  refine Br_dec (fun h3 => ?_) (fun h3 => by omega)
  repeat' walk_at "w"
  refine b_pow (by omega) ?_ ?_
  · have := bits_le hx
    have h5 : (Builtin.Int.intBits x : Int) * m ≤ 64 * m := Int.mul_le_mul_of_nonneg_right (by omega) (by omega)
    omega
  repeat' walk_at "w"
  exact J_kept F.ok (by omega) h1 h2 h
/-- what _law_wholes answers is a text, or a list of two ints -/
theorem resW_cases (early : Bool) (v u : Va) (b : Int) : (∃ e, resW early v u b = .error e ∧ (e = "TM" ∨ e = "OV")) ∨ (resW early v u b = .ok (.lst [.int v.near, .int u.near]) ∧ v.isS = false ∧ u.isS = false ∧ fitsM v.near b = true ∧ fitsM u.near b = true) := by
  unfold resW
  cases early <;> cases v.isS <;> cases u.isS <;> cases fitsM v.near b <;> cases fitsM u.near b <;> first
    | exact .inl ⟨_, rfl, .inl rfl⟩
    | exact .inl ⟨_, rfl, .inr rfl⟩
    | exact .inr ⟨rfl, rfl, rfl, rfl, rfl⟩
theorem resQ_err {v u : Va} {b : Int} {f : Int → Int → Int} {e : Str} (h : resW true v u b = .error e) : resQ v u b f = .error e := by
  unfold resW at h; unfold resQ
  revert h
  cases v.isS <;> cases u.isS <;> cases fitsM v.near b <;> cases fitsM u.near b <;> intro h <;> cases h <;> rfl
theorem resL_err {v u : Va} {b : Int} {f : Int → Int → Int} {e : Str} (h : resW false v u b = .error e) : resL v u b f = .error e := by
  unfold resW at h; unfold resL
  revert h
  cases v.isS <;> cases u.isS <;> cases fitsM v.near b <;> cases fitsM u.near b <;> intro h <;> cases h <;> rfl
theorem J_due_q (O : c.Ok) (hd : 16 ≤ c.d) {op : Str} {v u : Va} {b : Int} {f : Int → Int → Int} (hop : (op = "\\" ∧ f = quo) ∨ (op = "MOD" ∧ f = rest)) (hv : v.Ok) (hu : u.Ok) (h1 : 1 ≤ b) (h2 : b ≤ 16)
    (h : K (errP (resQ v u b f)) ω) : CallJ c (.adr 318) [.str op, v.pv, u.pv, .int b] ρ ω K X := by
  refine' J_def O ["op", "a", "b", "bits"] ["told", "one", "other", "whole"] ["op", "a", "b", "bits", "told", "one", "other", "whole"] [some (.str op), some (v.pv), some (u.pv), some (.int b), none, none, none, none] 15 (by omega) ?h1 ?h2 ?h3 rfl ?h4 rfl rfl ?h5
  case h1 => exact rfl
  case h2 => exact rfl
  case h3 => exact vs4 fun _ _ _ _ => rfl
  case h4 => decide +kernel
  intro c' F
  have hdF := F.dep
  have hq : ∀ x y : Int, (x.natAbs : Int) / y.natAbs * (if decide (x < 0) = decide (y < 0) then 1 else -1) = quo x y := fun x y => by
    unfold quo; split <;> omega
  rcases hop with ⟨rfl, rfl⟩ | ⟨rfl, rfl⟩
  · repeat' walk_at "w"
    refine J_wholes F.ok (by omega) hv hu h1 (by omega) ?_
    rcases resW_cases true v u b with ⟨e, hw, he⟩ | ⟨hw, q1, q2, q3, q4⟩
    · rw [hw]; rw [resQ_err hw] at h
      repeat' walk_at "w"
      exact h
    · rw [hw]
      unfold resQ at h; rw [q1, q2, q3, q4] at h
      have h : K (errP (if u.near = 0 then .error "DZ" else .ok (kept (quo v.near u.near) b))) ω := h
      have z1 := fits_bd q3 h2
      have z2 := fits_bd q4 h2
      repeat' walk_at "w"
      refine Br_dec (fun h3 => ?_) (fun h3 => ?_)
      · rw [if_pos h3] at h
        repeat' walk_at "w"
        exact h
      rw [if_neg h3] at h
      have h : K (kept (quo v.near u.near) b) ω := h
      have hb : NotBig (u.near.natAbs : Int) := ten_big (by omega) trivial
      rw [← hq] at h
      repeat' walk_at "w"
      refine Br_eqb (fun h4 => ?_) (fun h4 => ?_)
      · rw [if_pos h4] at h
        repeat' walk_at "w"
        exact J_kept F.ok (by omega) h1 (by omega) h
      · rw [if_neg h4] at h
        repeat' walk_at "w"
        exact J_kept F.ok (by omega) h1 (by omega) h
  · repeat' walk_at "w"
    refine J_wholes F.ok (by omega) hv hu h1 (by omega) ?_
    rcases resW_cases true v u b with ⟨e, hw, he⟩ | ⟨hw, q1, q2, q3, q4⟩
    · rw [hw]; rw [resQ_err hw] at h
      repeat' walk_at "w"
      exact h
    · rw [hw]
      unfold resQ at h; rw [q1, q2, q3, q4] at h
      have h : K (errP (if u.near = 0 then .error "DZ" else .ok (kept (rest v.near u.near) b))) ω := h
      have z1 := fits_bd q3 h2
      have z2 := fits_bd q4 h2
      repeat' walk_at "w"
      refine Br_dec (fun h3 => ?_) (fun h3 => ?_)
      · rw [if_pos h3] at h
        repeat' walk_at "w"
        exact h
      rw [if_neg h3] at h
      have h : K (kept (rest v.near u.near) b) ω := h
      have hb : NotBig (u.near.natAbs : Int) := ten_big (by omega) trivial
      unfold rest at h
      rw [← hq] at h
      repeat' walk_at "w"
      refine Br_eqb (fun h4 => ?_) (fun h4 => ?_)
      · rw [if_pos h4] at h
        repeat' walk_at "w"
        refine b_mul (mulokL (by omega)) ?_
        repeat' walk_at "w"
        exact J_kept F.ok (by omega) h1 (by omega) h
      · rw [if_neg h4] at h
        repeat' walk_at "w"
        refine b_mul (mulokL (by omega)) ?_
        repeat' walk_at "w"
        exact J_kept F.ok (by omega) h1 (by omega) h
theorem J_due_l (O : c.Ok) (hd : 16 ≤ c.d) {op : Str} {v u : Va} {b : Int} {f t : Int → Int → Int} (hop : Bits op t) (hrz : RZ f t) (hv : v.Ok) (hu : u.Ok) (h1 : 1 ≤ b) (h2 : b ≤ 16)
    (h : K (errP (resL v u b f)) ω) : CallJ c (.adr 318) [.str op, v.pv, u.pv, .int b] ρ ω K X := by
  refine' J_def O ["op", "a", "b", "bits"] ["told", "one", "other", "whole"] ["op", "a", "b", "bits", "told", "one", "other", "whole"] [some (.str op), some (v.pv), some (u.pv), some (.int b), none, none, none, none] 15 (by omega) ?h1 ?h2 ?h3 rfl ?h4 rfl rfl ?h5
  case h1 => exact rfl
  case h2 => exact rfl
  case h3 => exact vs4 fun _ _ _ _ => rfl
  case h4 => decide +kernel
  intro c' F
  have hdF := F.dep
  have hop' := hop
  obtain ⟨b, rfl⟩ : ∃ b' : Nat, b = b' := ⟨b.toNat, by omega⟩
  rcases hop with ⟨rfl, rfl⟩ | ⟨rfl, rfl⟩ | ⟨rfl, rfl⟩ | ⟨rfl, rfl⟩ | ⟨rfl, rfl⟩ <;>
  · repeat' walk_at "w"
    refine J_wholes F.ok (by omega) hv hu h1 (by omega) ?_
    rcases resW_cases false v u b with ⟨e, hw, he⟩ | ⟨hw, q1, q2, q3, q4⟩
    · rw [hw]; rw [resL_err hw] at h
      repeat' walk_at "w"
      exact h
    · rw [hw]
      unfold resL at h; rw [q1, q2, q3, q4] at h
      have h : K (.int (f v.near u.near)) ω := h
      repeat' walk_at "w"
      rw [← hrz.bits q3 q4] at h
      exact J_bits F.ok (by omega) hop' (by omega) (by omega) h
end
end TextPQ
section TextPR
theorem log_small {n : Int} (h : n.natAbs < 2 ^ 64) : n.natAbs.log2 < 1920 := by
  by_cases h0 : n.natAbs = 0
  · rw [h0]; decide
  · rw [Nat.log2_lt h0]
    exact Nat.lt_trans h (by decide +kernel)
theorem strip_bd (n : Nat) (h : n < 2 ^ 64) : (strip n n).1 < 2 ^ 64 ∧ (strip n n).2 < 2 ^ 64 := by
  by_cases h0 : n = 0
  · subst h0; decide
  · have hs := strip_spec (f := n) (n := n) (Nat.le_refl _) h0
    have h1 : 1 ≤ 10 ^ (strip n n).2 := Nat.pow_pos (by decide)
    have h2 : (strip n n).1 * 1 ≤ (strip n n).1 * 10 ^ (strip n n).2 := Nat.mul_le_mul_left _ h1
    have h3 : 1 * 10 ^ (strip n n).2 ≤ (strip n n).1 * 10 ^ (strip n n).2 := Nat.mul_le_mul_right _ (by omega)
    have h4 : (strip n n).2 < 10 ^ (strip n n).2 := Nat.lt_pow_self (by decide)
    omega
theorem repr_kept {n b : Int} (h : n.natAbs < 2 ^ 64) : ReprOk (kept n b) := by
  unfold kept
  split
  · unfold ReprOk; exact log_small h
  · have hs := strip_bd _ h
    refine ⟨_, _, rfl, log_small ?_, log_small ?_⟩
    · unfold signed; split <;> omega
    · omega
theorem arith_bd {op : Str} {x y r : Int} (h : Arith op x y r) (hx : x.natAbs ≤ 2 ^ 15) (hy : y.natAbs ≤ 2 ^ 15) : r.natAbs ≤ 2 ^ 30 := by
  rcases h with ⟨_, rfl⟩ | ⟨_, rfl⟩ | ⟨_, rfl⟩
  · omega
  · omega
  · rw [Int.natAbs_mul]
    have h := Nat.mul_le_mul hx hy
    have h3 : 2 ^ 15 * 2 ^ 15 = 2 ^ 30 := by decide
    omega
theorem pow_bd {x : Int} {m : Nat} (hx : x.natAbs ≤ 2 ^ 15) (hm : m ≤ 4) : (x ^ m).natAbs ≤ 2 ^ 60 := by
  rw [Int.natAbs_pow]
  have h1 : x.natAbs ^ m ≤ (2 ^ 15) ^ m := Nat.pow_le_pow_left hx m
  have h2 : (2 ^ 15) ^ m ≤ (2 ^ 15) ^ 4 := Nat.pow_le_pow_right (by decide) hm
  have h3 : (2 ^ 15) ^ 4 = 2 ^ 60 := by decide +kernel
  omega
theorem isI_iff {v : Va} (h : v.isI = true) : ∃ n, v = .i n := by cases v <;> first | exact ⟨_, rfl⟩ | cases h
theorem repr_codes : ReprOk (.str ("!" ++ "TM")) ∧ ReprOk (.str ("!" ++ "OV")) ∧ ReprOk (.str ("!" ++ "DZ")) := by
  unfold ReprOk
  refine ⟨?_, ?_, ?_⟩ <;> decide +kernel
theorem resQ_cases {v u : Va} {b : Int} {f : Int → Int → Int} : (resQ v u b f = .error "TM" ∨ resQ v u b f = .error "OV" ∨ resQ v u b f = .error "DZ") ∨ (resQ v u b f = .ok (kept (f v.near u.near) b) ∧ fitsM v.near b = true ∧ u.near ≠ 0) := by
  unfold resQ
  cases v.isS <;> cases u.isS <;> cases fitsM v.near b <;> cases fitsM u.near b <;> first
    | exact .inl (.inl rfl)
    | exact .inl (.inr (.inl rfl))
    | skip
  by_cases q : u.near = 0
  · exact .inl (.inr (.inr (if_pos q)))
  · exact .inr ⟨if_neg q, rfl, q⟩
theorem repr_resQ {v u : Va} {b : Int} {f : Int → Int → Int} (hb : b ≤ 16) (hf : f = quo ∨ f = rest) : ReprOk (errP (resQ v u b f)) := by
  rcases resQ_cases (v := v) (u := u) (b := b) (f := f) with (h | h | h) | ⟨h, h1, h2⟩
  · rw [h]; exact repr_codes.1
  · rw [h]; exact repr_codes.2.1
  · rw [h]; exact repr_codes.2.2
  · rw [h]
    have z := fits_bd h1 hb
    refine repr_kept ?_
    rcases hf with rfl | rfl
    · have := quo_bd (x := v.near) (y := u.near); omega
    · have := rest_bd (x := v.near) h2; omega
theorem resQ_kind {v u : Va} {b : Int} {f : Int → Int → Int} : (∃ p, resQ v u b f = .ok p) ∨ resQ v u b f = .error "TM" ∨ resQ v u b f = .error "OV" ∨ resQ v u b f = .error "DZ" := by
  rcases resQ_cases (v := v) (u := u) (b := b) (f := f) with h | ⟨h, _⟩
  · exact .inr h
  · exact .inl ⟨_, h⟩
theorem resL_cases {v u : Va} {b : Int} {f : Int → Int → Int} : (resL v u b f = .error "TM" ∨ resL v u b f = .error "OV") ∨ (resL v u b f = .ok (.int (f v.near u.near)) ∧ fitsM v.near b = true ∧ fitsM u.near b = true) := by
  unfold resL
  cases v.isS <;> cases u.isS <;> cases fitsM v.near b <;> cases fitsM u.near b <;> first
    | exact .inl (.inl rfl)
    | exact .inl (.inr rfl)
    | exact .inr ⟨rfl, rfl, rfl⟩
theorem resL_kind {v u : Va} {b : Int} {f : Int → Int → Int} : (∃ p, resL v u b f = .ok p) ∨ resL v u b f = .error "TM" ∨ resL v u b f = .error "OV" ∨ resL v u b f = .error "DZ" := by
  rcases resL_cases (v := v) (u := u) (b := b) (f := f) with (h | h) | ⟨h, _⟩
  · exact .inr (.inl h)
  · exact .inr (.inr (.inl h))
  · exact .inl ⟨_, h⟩
theorem bsum_bd {op : Str} {t : Int → Int → Int} (hop : Bits op t) (x y : Int) : ∀ n, 0 ≤ bsum t x y n ∧ bsum t x y n < 2 ^ n
  | 0 => by simp [bsum]
  | n + 1 => by
    have ih := bsum_bd hop x y n
    have ht : t (x / 2 ^ n % 2) (y / 2 ^ n % 2) = 0 ∨ t (x / 2 ^ n % 2) (y / 2 ^ n % 2) = 1 := by
      have hx1 : x / 2 ^ n % 2 = 0 ∨ x / 2 ^ n % 2 = 1 := by omega
      have hy1 : y / 2 ^ n % 2 = 0 ∨ y / 2 ^ n % 2 = 1 := by omega
      rcases hop with ⟨_, rfl⟩ | ⟨_, rfl⟩ | ⟨_, rfl⟩ | ⟨_, rfl⟩ | ⟨_, rfl⟩ <;> rcases hx1 with h | h <;> rcases hy1 with h' | h' <;> rw [h, h'] <;> decide
    have e : (2 : Int) ^ (n + 1) = 2 ^ n * 2 := Int.pow_succ _ _
    unfold bsum
    rcases ht with h | h <;> rw [h] <;> omega
theorem repr_resL {op : Str} {v u : Va} {b : Int} {f t : Int → Int → Int} (hop : Bits op t) (hrz : RZ f t) (h1 : 1 ≤ b) (hb : b ≤ 16) : ReprOk (errP (resL v u b f)) := by
  rcases resL_cases (v := v) (u := u) (b := b) (f := f) with (h | h) | ⟨h, q1, q2⟩
  · rw [h]; exact repr_codes.1
  · rw [h]; exact repr_codes.2.1
  · rw [h]
    obtain ⟨b, rfl⟩ : ∃ b' : Nat, b = b' := ⟨b.toNat, by omega⟩
    have e := hrz.bits q1 q2
    have e1 := bsum_bd hop v.near u.near (b - 1)
    have ht : t (v.near / 2 ^ (b - 1) % 2) (u.near / 2 ^ (b - 1) % 2) = 0 ∨ t (v.near / 2 ^ (b - 1) % 2) (u.near / 2 ^ (b - 1) % 2) = 1 := by
      have hx1 : v.near / 2 ^ (b - 1) % 2 = 0 ∨ v.near / 2 ^ (b - 1) % 2 = 1 := by omega
      have hy1 : u.near / 2 ^ (b - 1) % 2 = 0 ∨ u.near / 2 ^ (b - 1) % 2 = 1 := by omega
      rcases hop with ⟨_, rfl⟩ | ⟨_, rfl⟩ | ⟨_, rfl⟩ | ⟨_, rfl⟩ | ⟨_, rfl⟩ <;> rcases hx1 with h | h <;> rcases hy1 with h' | h' <;> rw [h, h'] <;> decide
    have hp : (2 : Int) ^ (b - 1) ≤ 2 ^ 15 := by
      have h : 2 ^ (b - 1) ≤ 2 ^ 15 := Nat.pow_le_pow_right (by decide) (by omega)
      exact_mod_cast h
    unfold bitsM at e
    show ReprOk (.int (f v.near u.near))
    rw [← e]
    unfold ReprOk
    refine log_small ?_
    rcases ht with h | h <;> rw [h] <;> omega
theorem Res_errP {r : Except Str PV} {K : PV → Prop} (hr : (∃ p, r = .ok p) ∨ r = .error "TM" ∨ r = .error "OV" ∨ r = .error "DZ") (h : K (errP r)) : Res r K (fun code => code.length ≤ 10 ∧ K (.str ("!" ++ code))) := by
  rcases hr with ⟨p, rfl⟩ | rfl | rfl | rfl
  · exact h
  · exact ⟨by decide +kernel, h⟩
  · exact ⟨by decide +kernel, h⟩
  · exact ⟨by decide +kernel, h⟩
section
variable {c : Cx} {sc : Scope} {vs : List Str} {n : Nat} {ρ : Store} {ω : Om} {K : PV → Om → Prop} {X : Str → Om → Prop} {N : Store → Om → Prop} {R : PV → Om → Prop} {KB : Bool → Om → Prop} {KL : List PV → Om → Prop}
theorem ForP_inv {i : Nat} {body : List Stmt} (I : Store → Om → Prop) : ∀ {ps : List PV} {ρ : Store} {ω : Om}, (∀ p ∈ ps, ∀ ρ ω, I ρ ω → i < ρ.length ∧ SS c (execs body c.env) (ρ.set i (some p)) ω I R XF) → (∀ ρ ω, I ρ ω → N ρ ω) → I ρ ω → ForP c i body N R ps ρ ω
  | [], ρ, ω, _, hN, hi => ForP_nil (hN _ _ hi)
  | p :: ps, ρ, ω, hb, hN, hi =>
    let ⟨h1, h2⟩ := hb p (.head _) ρ ω hi
    ForP_cons h1 (h2.mono (fun ρ' ω' h => ForP_inv I (fun q hq => hb q (.tail _ hq)) hN h) (fun _ _ x => x) fun _ _ x => x)
/-- a frame with cells -/
structure Gx (c : Cx) (cn : Str) (ccd : Value) (cells : List Str) : Prop where
  own : c.own = true
  cn : c.cn = cn
  ccd : c.ccd = ccd
  cells : ∀ x ∈ cells, (c.cl.lookup x).isSome = true
theorem J_cdef (O : c.Ok) {a : Addr} {name qual : Str} {params : Arguments} {body : List Stmt} {scope : Scope} {dV kV doc pm cdv ct oc : Value} {an od : Option Addr} {osl : Array (Option Value)} (xs ys vs cells : List Str) {ps : List PV} (ρ0 : Store) (n : Nat)
    (hdp : n + 1 ≤ c.d)
    (ho : (hd.heap_39 c.w.params).lookup a = some ⟨oc, od, .func (fnX name qual params body scope [] dV kV doc pm an cdv ct), osl⟩) (hcd : codeIn (hd.heap_39 c.w.params) cdv qual = true)
    (hbind : ∀ vs : List Value, vs.length = xs.length → bindArgs (fnX name qual params body scope [] dV kV doc pm an cdv ct) ⟨vs, []⟩ = pure (xs.zip vs))
    (hvs : xs ++ ys = vs) (hsc : cellScopeOk scope xs ys = true) (hcl : cells.all (fun x => scope.names.contains (x, NameKind.cell)) = true) (hps : ps.length = xs.length) (hρ : (ps.map some ++ ys.map fun _ => none) = ρ0)
    (h : ∀ c' : Cx, Fx c' scope vs n → Gx c' qual cdv cells → c'.toSt = c.toSt → SS c' (execs body c'.env) ρ0 ω (fun _ ω' => K .non ω') K X) : CallJ c (.adr a) ps ρ ω K X := by
  subst hvs hρ
  refine CallJ_cells O ho hcd hbind hsc (by omega) hps fun c' O' hst hd' hcs hv hown hcn hccd hcell => h c' ⟨O', hcs, hv, by omega⟩ ⟨hown, hcn, hccd, fun x hx => ?_⟩ hst
  have := List.all_eq_true.mp hcl x hx
  exact hcell (x, .cell) (List.contains_iff_mem.mp this) rfl
theorem S_for_tupI (O : c.Ok) {i : Nat} {x : Str} {px pos : Pos} {iter : Expr} {body : List Stmt} (hx : c.vars[i]? = some x) (hk : StoreOk c x) (hs : ∀ v, foldedSetIterable iter c.env v = pure v) (I : Store → Om → Prop)
    (h : SE c iter ρ ω (fun v ω1 => ∃ ps, v = .tup ps ∧ I ρ ω1 ∧ (∀ p ∈ ps, ∀ ρ ω, I ρ ω → i < ρ.length ∧ SS c (execs body c.env) (ρ.set i (some p)) ω I R XF) ∧ ∀ ρ ω, I ρ ω → N ρ ω) X) : SS c (exec (.For (.Name x px) iter body [] pos) c.env) ρ ω N R X :=
  S_for_tup O hx hk hs (Sg.mono h (fun _ _ ⟨ps, e, h1, h2, h3⟩ => ⟨ps, e, ForP_inv I h2 h3 h1⟩) fun _ _ x => x)
theorem mem_quo : ∀ p ∈ ([.str "\\", .str "MOD"] : List PV), ∃ op f, p = .str op ∧ ((op = "\\" ∧ f = quo) ∨ (op = "MOD" ∧ f = rest)) := by
  intro p hp
  rcases List.mem_cons.mp hp with rfl | hp
  · exact ⟨_, _, rfl, .inl ⟨rfl, rfl⟩⟩
  rcases List.mem_cons.mp hp with rfl | hp
  · exact ⟨_, _, rfl, .inr ⟨rfl, rfl⟩⟩
  cases hp
theorem mem_bits : ∀ p ∈ ([.str "AND", .str "OR", .str "XOR", .str "EQV", .str "IMP"] : List PV), ∃ op f t, p = .str op ∧ Logic op f ∧ Bits op t ∧ RZ f t := by
  intro p hp
  rcases List.mem_cons.mp hp with rfl | hp
  · exact ⟨_, _, _, rfl, .inl ⟨rfl, rfl⟩, .inl ⟨rfl, rfl⟩, rz_and⟩
  rcases List.mem_cons.mp hp with rfl | hp
  · exact ⟨_, _, _, rfl, .inr (.inl ⟨rfl, rfl⟩), .inr (.inl ⟨rfl, rfl⟩), rz_or⟩
  rcases List.mem_cons.mp hp with rfl | hp
  · exact ⟨_, _, _, rfl, .inr (.inr (.inl ⟨rfl, rfl⟩)), .inr (.inr (.inl ⟨rfl, rfl⟩)), rz_xor⟩
  rcases List.mem_cons.mp hp with rfl | hp
  · exact ⟨_, _, _, rfl, .inr (.inr (.inr (.inl ⟨rfl, rfl⟩))), .inr (.inr (.inr (.inl ⟨rfl, rfl⟩))), rz_eqv⟩
  rcases List.mem_cons.mp hp with rfl | hp
  · exact ⟨_, _, _, rfl, .inr (.inr (.inr (.inr ⟨rfl, rfl⟩))), .inr (.inr (.inr (.inr ⟨rfl, rfl⟩))), rz_imp⟩
  cases hp
theorem mem_arith (x y : Int) : ∀ p ∈ ([.str "+", .str "-", .str "*"] : List PV), ∃ op r, p = .str op ∧ Arith op x y r := by
  intro p hp
  rcases List.mem_cons.mp hp with rfl | hp
  · exact ⟨_, _, rfl, .inl ⟨rfl, rfl⟩⟩
  rcases List.mem_cons.mp hp with rfl | hp
  · exact ⟨_, _, rfl, .inr (.inl ⟨rfl, rfl⟩)⟩
  rcases List.mem_cons.mp hp with rfl | hp
  · exact ⟨_, _, rfl, .inr (.inr ⟨rfl, rfl⟩)⟩
  cases hp
theorem mem_dec : ∀ p ∈ ([.str "+", .str "-", .str "*", .str "/"] : List PV), ∃ op : Str, p = .str op ∧ (op = "+" ∨ op = "-" ∨ op = "*" ∨ op = "/") := by
  intro p hp
  rcases List.mem_cons.mp hp with rfl | hp
  · exact ⟨_, rfl, .inl rfl⟩
  rcases List.mem_cons.mp hp with rfl | hp
  · exact ⟨_, rfl, .inr (.inl rfl)⟩
  rcases List.mem_cons.mp hp with rfl | hp
  · exact ⟨_, rfl, .inr (.inr (.inl rfl))⟩
  rcases List.mem_cons.mp hp with rfl | hp
  · exact ⟨_, rfl, .inr (.inr (.inr rfl))⟩
  cases hp
end
end TextPR
section TextPS
section
variable {c : Cx} {sc : Scope} {vs : List Str} {n : Nat} {ρ : Store} {ω : Om} {K : PV → Om → Prop} {X : Str → Om → Prop} {N : Store → Om → Prop} {R : PV → Om → Prop} {KB : Bool → Om → Prop} {KL : List PV → Om → Prop}
theorem J_pair (O : c.Ok) (hd : 24 ≤ c.d) {v u : Va} {b : Int} (hv : v.Ok) (hu : u.Ok) (hvi : ∀ n, v = .i n → fitsM n b = true) (hui : ∀ n, u = .i n → fitsM n b = true) (h1 : 4 ≤ b) (h2 : b ≤ 16) (h : K (.bool true) ω) : CallJ c (.adr 332) [v.pv, u.pv, .int b] ρ ω K X := by
  refine' J_cdef O ["a", "b", "bits"] ["op", "small", "told"] ["a", "b", "bits", "op", "small", "told"] ["a", "b", "bits", "op"] [some v.pv, some u.pv, some (.int b), none, none, none] 23 (by omega) ?h1 ?h2 ?h3 rfl ?h4 ?h5 rfl rfl ?h6
  case h1 => exact rfl
  case h2 => exact rfl
  case h3 => exact vs3 fun _ _ _ => rfl
  case h4 => decide +kernel
  case h5 => decide +kernel
  intro c' F G hst
  have hdF := F.dep
  have hop : StoreOk c' "op" := .inr ⟨by rw [F.cs]; exact rfl, G.own, G.cells _ (by decide +kernel)⟩
  have H : LamHd c' 327 qB := ⟨⟨331, G.ccd, by rw [hst]; exact O.st.hdB⟩, by show (c'.cn ++ ".<locals>.") ++ "<lambda>" = _; rw [G.cn]; rfl, .inr ⟨rfl, rfl⟩⟩
  walk_at "w"
  refine S_for_tupI F.ok (i := 3) (by rw [F.vars]; exact rfl) hop (by intro _; exact rfl) (fun ρ' ω' => ω = ω' ∧ ∃ x y z, ρ' = [some v.pv, some u.pv, some (.int b), x, y, z]) ?_
  repeat' walk_at "v"
  refine ⟨⟨rfl, _, _, _, rfl⟩, fun p hp => ?_, ?_⟩
  · obtain ⟨op, f, rfl, hop'⟩ := mem_quo p hp
    rintro _ _ ⟨rfl, x, y, z, rfl⟩
    refine ⟨Nat.le_of_ble_eq_true rfl, ?_⟩
    repeat' walk_at "w"
    refine SE_heard F.ok H (ps := [.str op, v.pv, u.pv, .int b]) (vars := ["op", "a", "b", "bits"]) (by rw [F.cs]; exact rfl) (by exact rfl) (by intro _ _ _ _; exact rfl) (by decide +kernel) (by decide +kernel) ?_ ?_ (by omega) ?_
    · intro p hp hf
      rcases List.mem_cons.mp hp with rfl | hp
      · exact G.cells _ (by decide +kernel)
      rcases List.mem_cons.mp hp with rfl | hp
      · exact G.cells _ (by decide +kernel)
      rcases List.mem_cons.mp hp with rfl | hp
      · exact G.cells _ (by decide +kernel)
      rcases List.mem_cons.mp hp with rfl | hp
      · exact G.cells _ (by decide +kernel)
      rcases List.mem_cons.mp hp with rfl | hp
      · cases hf
      cases hp
    · intro i pv e
      match i, e with
      | 0, e => exact ⟨"op", 3, rfl, rfl, by rw [F.vars]; exact rfl, by rw [F.cs]; exact rfl, e⟩
      | 1, e => exact ⟨"a", 0, rfl, rfl, by rw [F.vars]; exact rfl, by rw [F.cs]; exact rfl, e⟩
      | 2, e => exact ⟨"b", 1, rfl, rfl, by rw [F.vars]; exact rfl, by rw [F.cs]; exact rfl, e⟩
      | 3, e => exact ⟨"bits", 2, rfl, rfl, by rw [F.vars]; exact rfl, by rw [F.cs]; exact rfl, e⟩
      | j + 4, e => simp at e
    intro c2 O2 hd2 hcs2 hv2
    have F2 : Fx c2 _ _ 21 := ⟨O2, hcs2, hv2, by omega⟩
    have hd3 := F2.dep
    clear hcs2 hv2
    repeat' walk_at "w"
    refine J_reckoned_q O2 (by omega) hop' hv hu (by omega) h2 (by omega) (by omega) (Res_errP resQ_kind ?_)
    repeat' walk_at "w"
    refine k_repr (repr_resQ h2 (hop'.imp (·.2) (·.2))) ?_
    repeat' walk_at "w"
    refine J_due_q F.ok (by omega) hop' hv hu (by omega) h2 ?_
    repeat' walk_at "w"
    refine k_repr (repr_resQ h2 (hop'.imp (·.2) (·.2))) ?_
    repeat' walk_at "w"
    refine Br_dec (fun _ => ?_) (fun q => absurd rfl q)
    repeat' walk_at "w"
    exact ⟨rfl, _, _, _, rfl⟩
  rintro _ _ ⟨rfl, x, y, z, rfl⟩
  walk_at "w"
  refine S_for_tupI F.ok (i := 3) (by rw [F.vars]; exact rfl) hop (by intro _; exact rfl) (fun ρ' ω' => ω = ω' ∧ ∃ x y z, ρ' = [some v.pv, some u.pv, some (.int b), x, y, z]) ?_
  repeat' walk_at "v"
  refine ⟨⟨rfl, _, _, _, rfl⟩, fun p hp => ?_, ?_⟩
  · obtain ⟨op, f, t, rfl, hop', hop2, hrz⟩ := mem_bits p hp
    rintro _ _ ⟨rfl, x, y, z, rfl⟩
    refine ⟨Nat.le_of_ble_eq_true rfl, ?_⟩
    repeat' walk_at "w"
    refine SE_heard F.ok H (ps := [.str op, v.pv, u.pv, .int b]) (vars := ["op", "a", "b", "bits"]) (by rw [F.cs]; exact rfl) (by exact rfl) (by intro _ _ _ _; exact rfl) (by decide +kernel) (by decide +kernel) ?_ ?_ (by omega) ?_
    · intro p hp hf
      rcases List.mem_cons.mp hp with rfl | hp
      · exact G.cells _ (by decide +kernel)
      rcases List.mem_cons.mp hp with rfl | hp
      · exact G.cells _ (by decide +kernel)
      rcases List.mem_cons.mp hp with rfl | hp
      · exact G.cells _ (by decide +kernel)
      rcases List.mem_cons.mp hp with rfl | hp
      · exact G.cells _ (by decide +kernel)
      rcases List.mem_cons.mp hp with rfl | hp
      · cases hf
      cases hp
    · intro i pv e
      match i, e with
      | 0, e => exact ⟨"op", 3, rfl, rfl, by rw [F.vars]; exact rfl, by rw [F.cs]; exact rfl, e⟩
      | 1, e => exact ⟨"a", 0, rfl, rfl, by rw [F.vars]; exact rfl, by rw [F.cs]; exact rfl, e⟩
      | 2, e => exact ⟨"b", 1, rfl, rfl, by rw [F.vars]; exact rfl, by rw [F.cs]; exact rfl, e⟩
      | 3, e => exact ⟨"bits", 2, rfl, rfl, by rw [F.vars]; exact rfl, by rw [F.cs]; exact rfl, e⟩
      | j + 4, e => simp at e
    intro c2 O2 hd2 hcs2 hv2
    have F2 : Fx c2 _ _ 21 := ⟨O2, hcs2, hv2, by omega⟩
    have hd3 := F2.dep
    clear hcs2 hv2
    repeat' walk_at "w"
    refine J_logic O2 (by omega) hop' hv hu (by omega) h2 (Res_errP resL_kind ?_)
    repeat' walk_at "w"
    refine k_repr (repr_resL hop2 hrz (by omega) h2) ?_
    repeat' walk_at "w"
    refine J_due_l F.ok (by omega) hop2 hrz hv hu (by omega) h2 ?_
    repeat' walk_at "w"
    refine k_repr (repr_resL hop2 hrz (by omega) h2) ?_
    repeat' walk_at "w"
    refine Br_dec (fun _ => ?_) (fun q => absurd rfl q)
    repeat' walk_at "w"
    exact ⟨rfl, _, _, _, rfl⟩
  rintro _ _ ⟨rfl, x, y, z, rfl⟩
  repeat' walk_at "v"
  refine SS_mid (fun ρ' ω' => ω = ω' ∧ (v.isI = false ∨ u.isI = false) ∧ ∃ x y z, ρ' = [some v.pv, some u.pv, some (.int b), x, y, z]) ?_ ?_
  · repeat' walk_at "w"
    cases hI : v.isI with
    | false =>
      repeat' walk_at "w"
      exact ⟨rfl, .inl rfl, _, _, _, rfl⟩
    | true =>
      repeat' walk_at "w"
      cases hJ : u.isI with
      | false =>
        repeat' walk_at "w"
        exact ⟨rfl, .inr rfl, _, _, _, rfl⟩
      | true =>
        obtain ⟨x1, rfl⟩ := isI_iff hI
        obtain ⟨y1, rfl⟩ := isI_iff hJ
        have bx := fits_bd (hvi _ rfl) h2
        have bY := fits_bd (hui _ rfl) h2
        have t1 : (2 : Int) ^ 30 < 10 ^ 20 := by decide
        have t2 : (2 : Int) ^ 60 < 10 ^ 80 := by decide +kernel
        dsimp only [Va.pv]
        repeat' walk_at "v"
        walk_at "w"
        refine S_for_tupI F.ok (i := 3) (by rw [F.vars]; exact rfl) hop (by intro _; exact rfl) (fun ρ' ω' => ω = ω' ∧ ∃ x y z, ρ' = [some (.int x1), some (.int y1), some (.int b), x, y, z]) ?_
        repeat' walk_at "v"
        refine ⟨⟨rfl, _, _, _, rfl⟩, fun p hp => ?_, ?_⟩
        · obtain ⟨op, r, rfl, hop'⟩ := mem_arith x1 y1 p hp
          have br := arith_bd hop' bx bY
          rintro _ _ ⟨rfl, x, y, z, rfl⟩
          refine ⟨Nat.le_of_ble_eq_true rfl, ?_⟩
          repeat' walk_at "w"
          refine J_reckoned_i F.ok (by omega) hop' (by omega) (by omega) (by omega) (by omega) (by omega) (by show (r.natAbs : Int) < 10 ^ 20; omega) ?_
          repeat' walk_at "w"
          refine k_repr (repr_kept (by omega)) ?_
          repeat' walk_at "w"
          refine J_due_i F.ok (by omega) hop' (by omega) (by omega) (by omega) ?_
          repeat' walk_at "w"
          refine k_repr (repr_kept (by omega)) ?_
          repeat' walk_at "w"
          refine Br_dec (fun _ => ?_) (fun q => absurd rfl q)
          repeat' walk_at "w"
          exact ⟨rfl, _, _, _, rfl⟩
        rintro _ _ ⟨rfl, x, y, z, rfl⟩
        obtain ⟨m, hm⟩ : ∃ m : Nat, y1 % 5 = m := ⟨(y1 % 5).toNat, by omega⟩
        have hm4 : m ≤ 4 := by omega
        have bp := pow_bd bx hm4
        repeat' walk_at "w"
        rw [hm]
        refine J_reckoned_p F.ok (by omega) (by omega) hm4 (by omega) (by omega) (by omega) (by omega) (by show ((x1 ^ m).natAbs : Int) < 10 ^ 80; omega) ?_
        repeat' walk_at "w"
        refine k_repr (repr_kept (by omega)) ?_
        repeat' walk_at "w"
        refine J_due_p F.ok (by omega) hm4 (by omega) (by omega) (by omega) ?_
        repeat' walk_at "w"
        refine k_repr (repr_kept (by omega)) ?_
        repeat' walk_at "w"
        rw [decide_eq_true rfl]
        exact h
  rintro _ _ ⟨rfl, hvu, x, y, z, rfl⟩
  walk_at "w"
  refine S_for_tupI F.ok (i := 3) (by rw [F.vars]; exact rfl) hop (by intro _; exact rfl) (fun ρ' ω' => ω = ω' ∧ ∃ x y z, ρ' = [some v.pv, some u.pv, some (.int b), x, y, z]) ?_
  repeat' walk_at "v"
  refine ⟨⟨rfl, _, _, _, rfl⟩, fun p hp => ?_, ?_⟩
  · obtain ⟨op, rfl, hop'⟩ := mem_dec p hp
    rintro _ _ ⟨rfl, x, y, z, rfl⟩
    refine ⟨Nat.le_of_ble_eq_true rfl, ?_⟩
    repeat' walk_at "w"
    refine SE_heard F.ok H (ps := [.str op, v.pv, u.pv, .int b]) (vars := ["op", "a", "b", "bits"]) (by rw [F.cs]; exact rfl) (by exact rfl) (by intro _ _ _ _; exact rfl) (by decide +kernel) (by decide +kernel) ?_ ?_ (by omega) ?_
    · intro p hp hf
      rcases List.mem_cons.mp hp with rfl | hp
      · exact G.cells _ (by decide +kernel)
      rcases List.mem_cons.mp hp with rfl | hp
      · exact G.cells _ (by decide +kernel)
      rcases List.mem_cons.mp hp with rfl | hp
      · exact G.cells _ (by decide +kernel)
      rcases List.mem_cons.mp hp with rfl | hp
      · exact G.cells _ (by decide +kernel)
      rcases List.mem_cons.mp hp with rfl | hp
      · cases hf
      cases hp
    · intro i pv e
      match i, e with
      | 0, e => exact ⟨"op", 3, rfl, rfl, by rw [F.vars]; exact rfl, by rw [F.cs]; exact rfl, e⟩
      | 1, e => exact ⟨"a", 0, rfl, rfl, by rw [F.vars]; exact rfl, by rw [F.cs]; exact rfl, e⟩
      | 2, e => exact ⟨"b", 1, rfl, rfl, by rw [F.vars]; exact rfl, by rw [F.cs]; exact rfl, e⟩
      | 3, e => exact ⟨"bits", 2, rfl, rfl, by rw [F.vars]; exact rfl, by rw [F.cs]; exact rfl, e⟩
      | j + 4, e => simp at e
    intro c2 O2 hd2 hcs2 hv2
    have F2 : Fx c2 _ _ 21 := ⟨O2, hcs2, hv2, by omega⟩
    have hd3 := F2.dep
    clear hcs2 hv2
    repeat' walk_at "w"
    refine J_reckoned_d O2 (by omega) hop' hv hu hvu (by omega) (by omega) (fun q => ⟨by decide +kernel, ?_⟩) (fun q1 q2 => ⟨by decide +kernel, ?_⟩) (fun q1 q2 m e => ?_)
    · repeat' walk_at "w"
      cases hS : v.isS with
      | true =>
        repeat' walk_at "w"
        exact ⟨rfl, _, _, _, rfl⟩
      | false =>
        repeat' walk_at "w"
        rw [isS_iff.mpr (q.resolve_left (isS_of hS))]
        repeat' walk_at "w"
        exact ⟨rfl, _, _, _, rfl⟩
    · repeat' walk_at "w"
      rw [not_isS q1]
      repeat' walk_at "w"
      rw [not_isS q2]
      repeat' walk_at "w"
      exact ⟨rfl, _, _, _, rfl⟩
    · repeat' walk_at "w"
      rw [not_isS q1]
      repeat' walk_at "w"
      rw [not_isS q2]
      repeat' walk_at "w"
      exact ⟨rfl, _, _, _, rfl⟩
  rintro _ _ ⟨rfl, x, y, z, rfl⟩
  repeat' walk_at "w"
  exact h
end
end TextPS
section TextPT
noncomputable def gPair : PV → PV
  | .tup xs => .tup xs
  | p => .tup [p, .int 0]
theorem no_isinst (w : World) : nsIn (KF w) mainGlobals "isinstance" = some none := by kernel_rfl
theorem no_tuple (w : World) : nsIn (KF w) mainGlobals "tuple" = some none := by kernel_rfl
theorem glob241 (w : World) : nsIn (KF w) mainGlobals "stands_so" = some (some (.ref 241)) := by kernel_rfl
section
variable {c : Cx} {ρ : Store} {ω : Om}
theorem elt_pair (O : c.Ok) {scope : Scope} {cl : List (Str × Addr)} {p1 p2 p3 p4 p5 p6 p7 p8 p9 : Pos} {k kk : Nat} (hk : scope.kind = .function)
    (hv : (relabel scope c.env).names.lookup ("value" : Str) = some .local) (hi : (relabel scope c.env).names.lookup ("isinstance" : Str) = some .globalImplicit) (ht : (relabel scope c.env).names.lookup ("tuple" : Str) = some .globalImplicit)
    {ps : List PV} (hps : ∀ p ∈ ps, ∃ v : Va, v ≠ .s ∧ p = v.pv) :
    EltOk c ρ ω (.IfExp (.Call (.Name "isinstance" p1) [.Name "value" p2, .Name "tuple" p3] [] p4) (.Name "value" p5) (.Tuple [.Name "value" p6, .Constant (.int 0) k p7] kk p8) p9) "value" scope cl gPair ps := by
  intro pv hp C m v s Q E f hC hm r hQ
  obtain ⟨m0, F⟩ := f.fr O
  have ld : ∀ (s2 : Shared) (Q2 : Value → Shared → Prop) (pos : Pos), s2.heap = s.heap → Q2 v s2 → wpAny (model PRG c.w) c.A (eval (.Name "value" pos) (compEnvC scope cl C c.env)) Q2 E s2 := fun s2 Q2 pos hs hq =>
    wpAny_Name (wpAny_loadName_local (env := compEnvC scope cl C c.env) hk hv (by rw [hs]; exact hC) hm hq) (by decide)
  have isT : ∀ t : Bool, isi pv .tuple = some t → (∀ tk, if t then Q v { s with toks := tk } else wpAny (model PRG c.w) c.A (eval (.Tuple [.Name "value" p6, .Constant (.int 0) k p7] kk p8) (compEnvC scope cl C c.env)) Q E { s with toks := tk }) →
      wpAny (model PRG c.w) c.A (eval (.IfExp (.Call (.Name "isinstance" p1) [.Name "value" p2, .Name "tuple" p3] [] p4) (.Name "value" p5) (.Tuple [.Name "value" p6, .Constant (.int 0) k p7] kk p8) p9) (compEnvC scope cl C c.env)) Q E s := fun t hti hq => by
    refine wpAny_IfExp (wpAny_isTrue_value ?_ rfl)
    refine wpAny_Call_ofName (LCgL.ld_built F O.st.X O.st.T (no_isinst c.w) (by kernel_rfl : bootBuiltins "isinstance" = some (.builtin "isinstance")) (by decide) ?_ rfl rfl hk hi)
    refine callWith_builtin (starEach_any rfl) (evalArgs_of rfl (wpAny_items_cons (ld _ _ _ rfl (wpAny_items_cons (LCgL.ld_built F O.st.X O.st.T (no_tuple c.w) (by kernel_rfl : bootBuiltins "tuple" = some (.type "tuple")) (by decide) (wpAny_items_nil ?_) rfl rfl hk ht) (starEach_cons rfl))) (starEach_cons rfl)))
    refine isi_sound (T := .tuple) hti r fun tk => wpAny_truthy_bool ?_
    cases t with
    | true => exact ld _ _ _ rfl (hq tk)
    | false => exact hq tk
  obtain ⟨w, hw, rfl⟩ := hps pv hp
  cases w with
  | s => exact absurd rfl hw
  | t mm e =>
    refine isT true rfl fun tk => ?_
    exact hQ _ _ f.inv.tok (.refl _ _) r
  | i n =>
    refine isT false rfl fun tk => ?_
    refine wpAny_Tuple (wpAny_items_cons (ld _ _ _ rfl (wpAny_items_cons (wpAny_Constant_int (wpAny_items_nil ?_)) (starEach_cons rfl))) (starEach_cons rfl))
    refine ⟨by rw [sizeLine_eq]; simp, ?_⟩
    have kk' := push_keeps (h := s.heap) (o := { cls := .type "tuple", data := .seq [v, .int 0 tk].toArray })
    refine hQ _ _ (f.inv.ext kk') (.of_keeps kk') ?_
    exact vr_tup.mpr ⟨_, _, _, _, rfl, Nat.ne_of_gt f.inv.bxlt, Heap.get?_push_size _ rfl, rfl, rfl, vrl_cons.mpr ⟨_, _, rfl, r.mono (.of_keeps kk'), vrl_cons.mpr ⟨_, _, rfl, vr_int', vrl_nil.mpr rfl⟩⟩⟩
noncomputable def standB (op : Str) (o : Int) : Bool := if op = "=" then decide (o = 0) else if op = "<>" then !decide (o = 0) else if op = "<" then decide (o < 0) else if op = ">" then decide (0 < o) else if op = "<=" then !decide (0 < o) else !decide (o < 0)
noncomputable def gStand (o : Int) : PV → PV
  | .str op => .bool (standB op o)
  | p => p
theorem elt_stand (O : c.Ok) (hd : 12 ≤ c.d) {scope : Scope} {cl : List (Str × Addr)} {p1 p2 p3 p4 : Pos} {o : Int} {j : Nat} (hk : scope.kind = .function)
    (hg : (relabel scope c.env).names.lookup ("stands_so" : Str) = some .globalImplicit) (hop : (relabel scope c.env).names.lookup ("op" : Str) = some .local) (hor : (relabel scope c.env).names.lookup ("order" : Str) = some .cell)
    (hj : c.vars[j]? = some "order") (hjg : ρ.get j = some (.int o)) (hcell : c.cs.names.lookup ("order" : Str) = some .cell) (hcl : cl.lookup ("order" : Str) = c.cl.lookup ("order" : Str))
    {ps : List PV} (hps : ∀ p ∈ ps, ∃ op : Str, p = .str op ∧ Stand op o (standB op o)) :
    EltOk c ρ ω (.Call (.Name "stands_so" p1) [.Name "op" p2, .Name "order" p3] [] p4) "op" scope cl (gStand o) ps := by
  intro pv hp C m v s Q E f hC hm r hQ
  obtain ⟨m0, F⟩ := f.fr O
  obtain ⟨op, rfl, hst⟩ := hps pv hp
  obtain ⟨x', vo, ex, yo, ro⟩ := f.vars j _ hjg
  rw [hj] at ex; cases ex
  obtain ⟨k, hkl, hkc⟩ : ∃ k, c.cl.lookup ("order" : Str) = some k ∧ s.heap.IsCell k (some vo) := by
    rcases yo with ⟨bad, _⟩ | ⟨_, k, e1, e2⟩
    · rw [hcell] at bad; cases bad
    · exact ⟨k, e1, e2⟩
  obtain ⟨oc, od, fd, sl, hf⟩ := fn_at (w := c.w) (a := 241) (by decide +kernel)
  refine wpAny_Call_ofName (LCgL.ld_global F O.st.X O.st.T (glob241 c.w) ?_ rfl hk hg)
  show wpAny _ _ (callWith p4 (.ref 241) [] (backTo p4 (starEach [.Name "op" p2, .Name "order" p3] (compEnvC scope cl C c.env))) []) _ _ _
  refine callWith_function (o := ⟨oc, od, .func fd, sl⟩) (fd := fd) (evalArgs_of rfl (wpAny_items_cons (wpAny_Name (wpAny_loadName_local (env := compEnvC scope cl C c.env) hk hop hC hm (wpAny_items_cons (wpAny_Name (wpAny_loadName_cell (env := compEnvC scope cl C c.env) hk hor (hcl.trans hkl) hkc (wpAny_items_nil ⟨⟨f.inv.stays _ _ (O.st.X _ _ hf), rfl⟩, ?_⟩)) (by decide)) (starEach_cons rfl))) (by decide)) (starEach_cons rfl)))
  refine J_stands O (by omega) (ρ := ρ) (ω := ω) (K := fun p ω' => p = .bool (standB op o) ∧ ω' = ω) (X := XF) hst ⟨rfl, rfl⟩ s Q E _ _ f (vr_adr.mpr rfl) (vrl_cons.mpr ⟨_, _, rfl, r, vrl_cons.mpr ⟨_, _, rfl, ro, vrl_nil.mpr rfl⟩⟩) (fun b a ω' s' hb i kp rv => ?_) fun _ _ _ _ z => z.elim
  obtain ⟨rfl, rfl⟩ := hb
  exact hQ a s' i kp rv
end
end TextPT
section TextPU
noncomputable def isLeOp : CmpOp → Bool
  | .LtE => true
  | .GtE => true
  | _ => false
noncomputable def CS (op : CmpOp) (a b : PV) (K : Bool → Prop) : Prop := Cop op a b K ∨ ∃ x y, a = .str x ∧ b = .str y ∧ ((op = .LtE ∧ K (!decide (y.cps.toList < x.cps.toList))) ∨ (op = .GtE ∧ K (!decide (x.cps.toList < y.cps.toList))))
section
variable {c : Cx} {sc : Scope} {vs : List Str} {n : Nat} {ρ : Store} {ω : Om} {K : PV → Om → Prop} {X : Str → Om → Prop} {N : Store → Om → Prop} {R : PV → Om → Prop}
theorem CS_sound {s : Shared} {E : Value → Shared → Prop} {Q : Value → Shared → Prop} {op : CmpOp} {a b : PV} {v u : Value} {K : Bool → Prop} (h : CS op a b K) (ra : Vr c.bx s.heap a v) (rb : Vr c.bx s.heap b u) (hQ : ∀ b, K b → Q (.bool b) s) : wpAny (model PRG c.w) c.A (compareOp op v u) Q E s := by
  rcases h with h | ⟨x, y, rfl, rfl, ⟨rfl, h⟩ | ⟨rfl, h⟩⟩
  · exact Cop_sound h ra rb hQ
  · obtain ⟨t, rfl⟩ := vr_str.mp ra; obtain ⟨t', rfl⟩ := vr_str.mp rb
    exact PySem.P.le_str (hQ _ h)
  · obtain ⟨t, rfl⟩ := vr_str.mp ra; obtain ⟨t', rfl⟩ := vr_str.mp rb
    exact PySem.P.ge_str (hQ _ h)
theorem SE_cmpS (F : Fx c sc vs n) {l r : Expr} {op : CmpOp} {pos : Pos} (ho : isLeOp op = true) (hm : behindInMarks op r = false) (h : SE c l ρ ω (fun a ω1 => SE c r ρ ω1 (fun b ω2 => CS op a b fun t => K (.bool t) ω2) X) X) :
    SE c (.Compare l [op] [r] pos) ρ ω K X := fun s Q E f hQ hE =>
  wpAny_Compare1 (h s _ _ f (fun _ _ ω1 s1 hK i1 k1 r1 => hK s1 _ _ (f.step i1 k1) (fun _ _ ω2 s2 hB i2 k2 r2 =>
    CS_sound hB (r1.mono k2) r2 fun t ht => hQ _ _ ω2 _ ht i2 (k1.trans k2) vr_bool')
    fun code ea ω' s' x i k e => hE code ea ω' s' x i (k1.trans k) e) hE) hm
theorem cs_le {a b : Int} {K : Bool → Prop} (h : K (decide (a ≤ b))) : CS .LtE (.int a) (.int b) K := .inl h
theorem cs_ge {a b : Int} {K : Bool → Prop} (h : K (decide (b ≤ a))) : CS .GtE (.int a) (.int b) K := .inl h
theorem cs_les {x y : Str} {K : Bool → Prop} (h : K (!decide (y.cps.toList < x.cps.toList))) : CS .LtE (.str x) (.str y) K := .inr ⟨x, y, rfl, rfl, .inl ⟨rfl, h⟩⟩
theorem cs_ges {x y : Str} {K : Bool → Prop} (h : K (!decide (x.cps.toList < y.cps.toList))) : CS .GtE (.str x) (.str y) K := .inr ⟨x, y, rfl, rfl, .inr ⟨rfl, h⟩⟩
theorem wAsgC (F : Fx c sc vs n) {i : Nat} {x : Str} {e : Expr} {px pos : Pos} (hx : At vs i x) (hk : StoreOk c x) (hc : notComp e = true) (hi : i < ρ.length)
    (h : SE c e ρ ω (fun v ω1 => N (ρ.set i (some v)) ω1) X) : SS c (exec (.Assign [.Name x px] e pos) c.env) ρ ω N R X :=
  S_asg F.ok (by rw [F.vars]; exact hx.get) hk hc hi h
end
local macro_rules | `(tactic| walk_at "v") => `(tactic| first
  | ((with_reducible refine' SE_cmpS (by assumption) ?w1 ?w2 ?_); (case w1 => exact rfl); (case w2 => exact rfl))
  | with_reducible refine cs_le ?_
  | with_reducible refine cs_ge ?_
  | with_reducible refine cs_les ?_
  | with_reducible refine cs_ges ?_)
theorem gPair_va {v : Va} (h : v ≠ .s) : gPair v.pv = .tup [.int v.m, .int v.e] := by cases v <;> first | rfl | exact absurd rfl h
theorem lst6 : ∀ a b g d e f : Bool, dcheck .Eq (.lst [.bool a, .bool b, .bool g, .bool d, .bool e, .bool f]) (.lst [.bool a, .bool b, .bool g, .bool d, .bool e, .bool f]) = some true := by decide +kernel
theorem told_eq (p q : Int) : List.map (gStand (cmpI p q)) [.str "=", .str "<>", .str "<", .str ">", .str "<=", .str ">="] =
    [.bool (decide (p = q)), .bool (!decide (p = q)), .bool (decide (p < q)), .bool (decide (q < p)), .bool (decide (p ≤ q)), .bool (decide (q ≤ p))] := by
  have h : (p < q ∧ cmpI p q = -1) ∨ (p = q ∧ cmpI p q = 0) ∨ (q < p ∧ cmpI p q = 1) := by
    unfold cmpI
    rcases Int.lt_trichotomy p q with h | h | h
    · exact .inl ⟨h, by rw [decide_eq_false (by omega), decide_eq_true h]; rfl⟩
    · exact .inr (.inl ⟨h, by rw [decide_eq_false (by omega), decide_eq_false (by omega)]; rfl⟩)
    · exact .inr (.inr ⟨h, by rw [decide_eq_true h, decide_eq_false (by omega)]; rfl⟩)
  rcases h with ⟨h, e⟩ | ⟨h, e⟩ | ⟨h, e⟩
  · rw [e, decide_eq_false (show ¬p = q by omega), decide_eq_true h, decide_eq_false (show ¬q < p by omega), decide_eq_true (show p ≤ q by omega), decide_eq_false (show ¬q ≤ p by omega)]
    exact rfl
  · rw [e, decide_eq_true h, decide_eq_false (show ¬p < q by omega), decide_eq_false (show ¬q < p by omega), decide_eq_true (show p ≤ q by omega), decide_eq_true (show q ≤ p by omega)]
    exact rfl
  · rw [e, decide_eq_false (show ¬p = q by omega), decide_eq_false (show ¬p < q by omega), decide_eq_true h, decide_eq_false (show ¬p ≤ q by omega), decide_eq_true (show q ≤ p by omega)]
    exact rfl
theorem mem_stand (o : Int) : ∀ p ∈ ([.str "=", .str "<>", .str "<", .str ">", .str "<=", .str ">="] : List PV), ∃ op : Str, p = .str op ∧ Stand op o (standB op o) := by
  intro p hp
  rcases List.mem_cons.mp hp with rfl | hp
  · exact ⟨_, rfl, .inl ⟨rfl, rfl⟩⟩
  rcases List.mem_cons.mp hp with rfl | hp
  · exact ⟨_, rfl, .inr (.inl ⟨rfl, rfl⟩)⟩
  rcases List.mem_cons.mp hp with rfl | hp
  · exact ⟨_, rfl, .inr (.inr (.inl ⟨rfl, rfl⟩))⟩
  rcases List.mem_cons.mp hp with rfl | hp
  · exact ⟨_, rfl, .inr (.inr (.inr (.inl ⟨rfl, rfl⟩)))⟩
  rcases List.mem_cons.mp hp with rfl | hp
  · exact ⟨_, rfl, .inr (.inr (.inr (.inr (.inl ⟨rfl, rfl⟩))))⟩
  rcases List.mem_cons.mp hp with rfl | hp
  · exact ⟨_, rfl, .inr (.inr (.inr (.inr (.inr ⟨rfl, rfl⟩))))⟩
  cases hp
section
variable {c : Cx} {sc : Scope} {vs : List Str} {n : Nat} {ρ : Store} {ω : Om} {K : PV → Om → Prop} {X : Str → Om → Prop} {N : Store → Om → Prop} {R : PV → Om → Prop} {KB : Bool → Om → Prop} {KL : List PV → Om → Prop}
theorem J_order (O : c.Ok) (hd : 24 ≤ c.d) {v u : Va} (hv : v.Ok) (hu : u.Ok) (h : K (.bool true) ω) : CallJ c (.adr 337) [v.pv, u.pv] ρ ω K X := by
  refine' J_cdef O ["a", "b"] ["one", "other", "here", "there", "order", "told"] ["a", "b", "one", "other", "here", "there", "order", "told"] ["a", "b", "order"] [some v.pv, some u.pv, none, none, none, none, none, none] 23 (by omega) ?h1 ?h2 ?h3 rfl ?h4 ?h5 rfl rfl ?h6
  case h1 => exact rfl
  case h2 => exact rfl
  case h3 => exact vs2 fun _ _ => rfl
  case h4 => decide +kernel
  case h5 => decide +kernel
  intro c' F G hst
  have hdF := F.dep
  have hord : StoreOk c' "order" := .inr ⟨by rw [F.cs]; exact rfl, G.own, G.cells _ (by decide +kernel)⟩
  have H : LamHd c' 334 qA := ⟨⟨336, G.ccd, by rw [hst]; exact O.st.hdA⟩, by show (c'.cn ++ ".<locals>.") ++ "<lambda>" = _; rw [G.cn]; rfl, .inl ⟨rfl, rfl⟩⟩
  refine SS_mid (fun ρ' ω' => ω = ω' ∧ v.isS = u.isS ∧ ρ' = [some v.pv, some u.pv, none, none, none, none, none, none]) ?_ ?_
  · repeat' walk_at "w"
    by_cases hq : v.isS = u.isS
    · have hb : (v.isS != u.isS) = false := by rw [hq]; cases u.isS <;> rfl
      rw [hb]
      repeat' walk_at "w"
      exact ⟨rfl, hq, rfl⟩
    · have hb : (v.isS != u.isS) = true := by revert hq; cases v.isS <;> cases u.isS <;> simp
      rw [hb]
      repeat' walk_at "w"
      refine SE_heard F.ok H (ps := [v.pv, u.pv]) (vars := ["a", "b"]) (by rw [F.cs]; exact rfl) (by exact rfl) (by intro _ _ _ _; exact rfl) (by decide +kernel) (by decide +kernel) ?_ ?_ (by omega) ?_
      · intro p hp hf
        rcases List.mem_cons.mp hp with rfl | hp
        · exact G.cells _ (by decide +kernel)
        rcases List.mem_cons.mp hp with rfl | hp
        · exact G.cells _ (by decide +kernel)
        rcases List.mem_cons.mp hp with rfl | hp
        · cases hf
        cases hp
      · intro i pv e
        match i, e with
        | 0, e => exact ⟨"a", 0, rfl, rfl, by rw [F.vars]; exact rfl, by rw [F.cs]; exact rfl, e⟩
        | 1, e => exact ⟨"b", 1, rfl, rfl, by rw [F.vars]; exact rfl, by rw [F.cs]; exact rfl, e⟩
        | j + 2, e => simp at e
      intro c2 O2 hd2 hcs2 hv2
      have F2 : Fx c2 _ _ 21 := ⟨O2, hcs2, hv2, by omega⟩
      have hd3 := F2.dep
      clear hcs2 hv2
      repeat' walk_at "w"
      refine J_order_of O2 (by omega) hv hu (fun _ => ⟨by decide +kernel, ?_⟩) (fun q => absurd q hq)
      repeat' walk_at "w"
      have hb : (decide ((("!" : Str) ++ "TM") = ("!TM" : Str))) = true := by decide +kernel
      rw [hb]; exact h
  rintro _ _ ⟨rfl, hq, rfl⟩
  have hE : c'.env = envX c'.cn c'.cs c'.L c'.a c'.ccd c'.cl := rfl
  rw [F.cs] at hE
  refine SS_mid (fun ρ' ω' => ω = ω' ∧ ∃ x y, ρ' = [some v.pv, some u.pv, some v.pv, some u.pv, x, y, none, none]) ?_ ?_
  · repeat' walk_at "w"
    exact ⟨rfl, _, _, rfl⟩
  rintro _ _ ⟨rfl, x, y, rfl⟩
  refine SS_mid (fun ρ' ω' => ω = ω' ∧ ∃ x y z w, ρ' = [some v.pv, some u.pv, some x, some y, z, w, none, none] ∧
    ((v.isS = true ∧ x = .str "A" ∧ y = .str "A") ∨ (v.isS = false ∧ x = .int (v.m * 10 ^ (v.e + 20).toNat) ∧ y = .int (u.m * 10 ^ (u.e + 20).toNat)))) ?_ ?_
  · repeat' walk_at "w"
    cases hS : v.isS with
    | true =>
      obtain rfl := isS_iff.mp hS
      obtain rfl := isS_iff.mp (hq.symm.trans hS)
      repeat' walk_at "w"
      exact ⟨rfl, _, _, _, _, rfl, .inl ⟨rfl, rfl, rfl⟩⟩
    | false =>
      have hvs := isS_of hS
      have hus := isS_of (hq.symm.trans hS)
      have sv := hv.sm
      have su := hu.sm
      have b1 := sv.e1; have b2 := sv.e2; have b3 := su.e1; have b4 := su.e2; have b5 := sv.m; have b6 := su.m
      have mem : ∀ p ∈ [v.pv, u.pv], ∃ w : Va, w ≠ .s ∧ p = w.pv := by
        intro p hp
        rcases List.mem_cons.mp hp with rfl | hp
        · exact ⟨v, hvs, rfl⟩
        rcases List.mem_cons.mp hp with rfl | hp
        · exact ⟨u, hus, rfl⟩
        cases hp
      repeat' walk_at "w"
      refine SE_comp F.ok (fun x => (c'.cl.lookup x).getD 0) gPair (by decide +kernel) ?_ (by intro _; exact rfl) ?_
      · intro p hp hf
        rcases List.mem_cons.mp hp with rfl | hp
        · cases hf
        rcases List.mem_cons.mp hp with rfl | hp
        · cases hf
        rcases List.mem_cons.mp hp with rfl | hp
        · cases hf
        rcases List.mem_cons.mp hp with rfl | hp
        · cases hf
        cases hp
      repeat' walk_at "w"
      refine ⟨fun pv hp => ?_, elt_pair F.ok rfl (by rw [hE]; exact rfl) (by rw [hE]; exact rfl) (by rw [hE]; exact rfl) mem, ?_⟩
      · obtain ⟨w, hw, rfl⟩ := mem pv hp
        rw [gPair_va hw]; rfl
      have hmap : List.map gPair [v.pv, u.pv] = [.tup [.int v.m, .int v.e], .tup [.int u.m, .int u.e]] := by
        show [gPair v.pv, gPair u.pv] = _
        rw [gPair_va hvs, gPair_va hus]
      rw [hmap]
      repeat' walk_at "w"
      refine b_mul (mulokL (Nat.lt_trans b5 (by decide))) ?_
      repeat' walk_at "w"
      refine b_mul (mulokL (Nat.lt_trans b6 (by decide))) ?_
      repeat' walk_at "w"
      exact ⟨rfl, _, _, _, _, rfl, .inr ⟨rfl, rfl, rfl⟩⟩
  rintro _ _ ⟨rfl, x, y, z, w, rfl, hxy⟩
  refine SS_cons (wAsgC F (i := 6) (by walk_at "at") hord rfl (Nat.le_of_ble_eq_true rfl) ?_)
  repeat' walk_at "w"
  refine J_order_of F.ok (by omega) hv hu (fun q => absurd hq q) (fun _ => ?_)
  obtain ⟨ko, hko⟩ := Option.isSome_iff_exists.mp (G.cells "order" (by decide +kernel))
  walk_at "w"
  refine S_asgComp F.ok (fun x => (c'.cl.lookup x).getD 0) (gStand (ordV v u)) (i := 7) (by decide +kernel) ?_ (by intro _; exact rfl) (by rw [hE]; exact rfl) (by rw [F.vars]; exact rfl) (by rw [F.cs]; exact rfl) (Nat.le_of_ble_eq_true rfl) ?_
  · intro p hp hf
    rcases List.mem_cons.mp hp with rfl | hp
    · cases hf
    rcases List.mem_cons.mp hp with rfl | hp
    · cases hf
    rcases List.mem_cons.mp hp with rfl | hp
    · cases hf
    rcases List.mem_cons.mp hp with rfl | hp
    · show c'.cl.lookup ("order" : Str) = some ((c'.cl.lookup ("order" : Str)).getD 0)
      rw [hko]; rfl
    cases hp
  repeat' walk_at "w"
  refine ⟨fun pv hp => ?_, elt_stand F.ok (by omega) (j := 6) rfl (by rw [hE]; exact rfl) (by rw [hE]; exact rfl) (by rw [hE]; exact rfl) (by rw [F.vars]; exact rfl) rfl (by rw [F.cs]; exact rfl) ?_ (mem_stand _), ?_⟩
  · obtain ⟨op, rfl, _⟩ := mem_stand (ordV v u) pv hp
    rfl
  · show some ((c'.cl.lookup ("order" : Str)).getD 0) = _
    rw [hko]; rfl
  rcases hxy with ⟨hS, rfl, rfl⟩ | ⟨hS, rfl, rfl⟩
  · obtain rfl := isS_iff.mp hS
    obtain rfl := isS_iff.mp (hq.symm.trans hS)
    repeat' walk_at "w"
    exact h
  · repeat' walk_at "w"
    rw [show ordV v u = cmpI (v.m * 10 ^ (v.e + 20).toNat) (u.m * 10 ^ (u.e + 20).toNat) from rfl, told_eq]
    exact .inr (DCmp_of (lst6 _ _ _ _ _ _) h)
end
end TextPU
section TextPV
section
variable {c : Cx} {sc : Scope} {vs : List Str} {n : Nat} {ρ : Store} {ω : Om} {K : PV → Om → Prop} {X : Str → Om → Prop} {N : Store → Om → Prop} {R : PV → Om → Prop}
theorem S_for_lstI (O : c.Ok) {i : Nat} {x : Str} {px pos : Pos} {iter : Expr} {body : List Stmt} (hx : c.vars[i]? = some x) (hk : StoreOk c x) (hs : ∀ v, foldedSetIterable iter c.env v = pure v) (I : Store → Om → Prop)
    (h : SE c iter ρ ω (fun v ω1 => ∃ ps, v = .lst ps ∧ I ρ ω1 ∧ (∀ p ∈ ps, ∀ ρ ω, I ρ ω → i < ρ.length ∧ SS c (execs body c.env) (ρ.set i (some p)) ω I R XF) ∧ ∀ ρ ω, I ρ ω → N ρ ω) X) : SS c (exec (.For (.Name x px) iter body [] pos) c.env) ρ ω N R X :=
  S_for_lst O hx hk hs (Sg.mono h (fun _ _ ⟨ps, e, h1, h2, h3⟩ => ⟨ps, e, ForP_inv I h2 h3 h1⟩) fun _ _ x => x)
theorem J_all (O : c.Ok) (hd : 7 ≤ c.d) {ps : List PV} (hp : ∀ p ∈ ps, ∃ i, p = .int i) (hl : ps.length ≤ 2 ^ 20) (h : ∀ r, 0 ≤ r → K (.int r) ω) : CallJ c (.adr 269) [.lst ps] ρ ω K X := by
  refine' J_def O ["script"] ["found", "one"] ["script", "found", "one"] [some (.lst ps), none, none] 6 (by omega) ?h1 ?h2 ?h3 rfl ?h4 rfl rfl ?h5
  case h1 => exact rfl
  case h2 => exact rfl
  case h3 => exact vs1 fun _ => rfl
  case h4 => decide +kernel
  intro c' F
  have hdF := F.dep
  repeat' walk_at "w"
  refine S_for_lstI F.ok (i := 2) (by rw [F.vars]; exact rfl) (.inl (by rw [F.cs]; exact rfl)) (by intro _; exact rfl) (fun ρ' ω' => ω = ω' ∧ ∃ r y, 0 ≤ r ∧ ρ' = [some (.lst ps), some (.int r), y]) ?_
  refine SE_cut F.ok ?_
  refine wV F (i := 0) (by walk_at "at") rfl rfl ⟨_, rfl, hl, _, rfl, ⟨rfl, _, _, Int.le_refl _, rfl⟩, ?_, ?_⟩
  · rintro p hpm _ _ ⟨rfl, r, y, hr, rfl⟩
    obtain ⟨i, rfl⟩ := hp p (List.mem_of_mem_take (List.mem_reverse.mp hpm))
    refine ⟨Nat.le_of_ble_eq_true rfl, ?_⟩
    repeat' walk_at "w"
    exact ⟨rfl, _, _, by omega, rfl⟩
  · rintro _ _ ⟨rfl, r, y, hr, rfl⟩
    repeat' walk_at "w"
    exact h r hr
end
end TextPV
section TextPW
theorem S_box {c : Cx} (O : c.Ok) (hcl : c.cl = []) (hhe : c.he = c.G) {ρ : Store} {ω : Om} {i m : Nat} {x : Str} {px lp pos : Pos} {es : List Expr} {KK : Int → Int → Prop}
    (hx : c.vars[i]? = some x) (hi : i < m) (hk : c.cs.names.lookup x = some .local) {s : Shared} {Q : Flow → Shared → Prop} {E : Value → Shared → Prop} (f : FrI c ρ ω s)
    (h : SL c (spliced (backTo lp (starEach es c.env))) ρ ω (fun ps ω1 => ∃ b0 b1, ps = [.int b0, .int b1] ∧ KK b0 b1) XF)
    (hQ : ∀ D b0 b1 s', KK b0 b1 → Cx.Ok { c with bx := D } → FrI { c with bx := D } ((List.replicate m none).set i (some .box)) (some (b0, b1)) s' → Q .next s') :
    wpAny (model PRG c.w) c.A (exec (.Assign [.Name x px] (.List es lp) pos) c.env) Q E s := by
  refine wpAny_Assign_Name (wpAny_List (h s _ _ f (fun ps vs ω1 s1 hK i1 k1 r1 => ?_) fun _ _ _ _ z => z.elim)) (swapsWith_false rfl)
  obtain ⟨b0, b1, rfl, hKK⟩ := hK
  have hl := vrl_len r1
  obtain ⟨v1, t1, rfl, h1, r1⟩ := vrl_cons.mp r1
  obtain ⟨v2, t2, rfl, h2, r1⟩ := vrl_cons.mp r1
  obtain rfl := vrl_nil.mp r1
  obtain ⟨q1, rfl⟩ := vr_int.mp h1
  obtain ⟨q2, rfl⟩ := vr_int.mp h2
  refine ⟨by rw [sizeLine_eq, List.length_cons, List.length_cons, List.length_nil]; decide, ?_⟩
  have f1 := f.step i1 k1
  have fr := f1.fresh
  have kk := push_keeps (h := s1.heap) (o := { cls := .type "list", data := .seq [Value.int b0 q1, .int b1 q2].toArray })
  have eD : (s1.heap.push { cls := .type "list", data := .seq [Value.int b0 q1, .int b1 q2].toArray }).get? s1.heap.objs.size = some { cls := .type "list", data := .seq [Value.int b0 q1, .int b1 q2].toArray } := Heap.get?_push_size _ rfl
  have i2 := i1.ext (tk := s1.toks) kk
  have ffx := FF.step i1 f1.ff (.of_keeps kk)
  have O2 : Cx.Ok { c with bx := s1.heap.objs.size } := {
    st := ⟨O.st.X, O.st.T, O.st.hdA, O.st.hdB, O.st.nA, O.st.nB⟩
    hand := O.hand
    frames := O.frames
    guards := O.guards
    depth := O.depth
    units := O.units
    kind := O.kind
    above := O.above
    heL := O.heL
    cells := fun x k e => by rw [show c.cl = [] from hcl] at e; cases e
    inj := fun x y k e => by rw [show c.cl = [] from hcl] at e; cases e
    outL := O.outL
    nodup := O.nodup }
  have f2 : FrI { c with bx := s1.heap.objs.size } (List.replicate m none) (some (b0, b1)) { s1 with heap := s1.heap.push { cls := .type "list", data := .seq [Value.int b0 q1, .int b1 q2].toArray } } := {
    inv := {
      gens := i2.gens
      os := i2.os
      stays := i2.stays
      tabA := i2.tabA
      tabB := i2.tabB
      bxs := ⟨_, _, _, eD, rfl⟩
      box := fun b0' b1' q => by cases q; exact ⟨fr.g, _, _, q1, q2, eD, rfl, rfl⟩ }
    ff := ffx
    kp := .of_keeps fun b o e => i2.stays b o (by rw [← hhe]; exact e)
    ns := let ⟨mm, hm⟩ := f1.ns; ⟨mm, i1.nsStep (.of_keeps kk) hm⟩
    cel := fun x k e => by rw [show c.cl = [] from hcl] at e; cases e
    vars := fun j pv e => by
      unfold Store.get at e
      split at e
      · rename_i o ho
        rw [List.getElem?_replicate] at ho
        split at ho <;> cases ho
        cases e
      · cases e }
  exact f2.store (c := { c with bx := s1.heap.objs.size }) O2 hx (by rw [List.length_replicate]; exact hi) (.inl hk) (vr_box.mpr rfl) fun s' f' _ => hQ _ b0 b1 s' hKK O2 f'
end TextPW
section TextPX
theorem fits_eight {x b : Int} (hx : -8 ≤ x ∧ x ≤ 7) (hb : 4 ≤ b) : fitsM x b = true := by
  unfold fitsM
  have : (2 : Int) ^ 3 ≤ 2 ^ (b - 1).toNat := by
    have h : 2 ^ 3 ≤ 2 ^ (b - 1).toNat := Nat.pow_le_pow_right (by decide) (by omega)
    exact_mod_cast h
  rw [Bool.and_eq_true, decide_eq_true_eq, decide_eq_true_eq]
  omega
theorem resQ_seven {b : Int} (hb : 4 ≤ b) : resQ (.i 7) (.i (-2)) b rest = .ok (.int 1) := by
  unfold resQ
  rw [show (Va.i 7).isS = false from rfl, show (Va.i (-2)).isS = false from rfl, show (Va.i 7).near = 7 from rfl, show (Va.i (-2)).near = -2 from rfl, fits_eight (by omega) hb, fits_eight (by omega) hb]
  have e : rest 7 (-2) = 1 := by decide +kernel
  rw [e]
  unfold kept
  rw [fits_eight (by omega) hb]
  exact rfl
theorem law_enter {c : Cx} {sc : Scope} {ps : List PV} {rest : List Stmt} {px q1 q2 q3 q4 lp pos : Pos} {k : Nat} {s : Shared} {Q : Flow → Shared → Prop} {E : Value → Shared → Prop}
    (F : Fx c sc ["script", "box", "bits", "turn", "a", "b"] 30) (hcl : c.cl = []) (hhe : c.he = c.G) (h1 : sc.names.lookup ("_law_all" : Str) = some .globalImplicit) (h2 : sc.names.lookup ("box" : Str) = some .local)
    (hp : ∀ p ∈ ps, ∃ i, p = .int i) (hl : ps.length ≤ 2 ^ 20) (f : FrI c [some (.lst ps), none, none, none, none, none] none s)
    (hwalk : ∀ c : Cx, Fx c sc ["script", "box", "bits", "turn", "a", "b"] 30 → ∀ r, 0 ≤ r → SS c (execs rest c.env) [none, some .box, none, none, none, none] (some (r, 0)) (fun _ _ => False) (fun v _ => v = .bool true) XF)
    (hQ : ∀ D ω s', Cx.Ok { c with bx := D } → FrI { c with bx := D } [] ω s' → Q (.ret (.bool true)) s') :
    wpAny (model PRG c.w) c.A (execs (.Assign [.Name "box" px] (.List [.Call (.Name "_law_all" q1) [.Name "script" q2] [] q3, .Constant (.int 0) k q4] lp) pos :: rest) c.env) Q E s := by
  have hdF := F.dep
  refine wpAny_execs_cons (S_box (i := 1) (m := 6) (KK := fun b0 b1 => 0 ≤ b0 ∧ b1 = 0) F.ok hcl hhe (by rw [F.vars]; exact rfl) (by decide) (by rw [F.cs]; exact h2) f ?_ ?_)
  · refine SL_cons rfl (wCall F .a269 h1 rfl ?_)
    repeat' walk_at "w"
    refine J_all F.ok (by omega) hp hl fun r hr => ?_
    repeat' walk_at "w"
    exact ⟨_, _, rfl, hr, rfl⟩
  · rintro D b0 _ s' ⟨h0, rfl⟩ O2 f2
    refine hwalk { c with bx := D } ⟨O2, F.cs, F.vars, F.dep⟩ b0 h0 s' _ _ f2 (fun _ _ _ z => z.elim) ?_ fun _ _ _ _ z => z.elim
    rintro _ v ω' s2 rfl f3 rv
    obtain rfl := vr_bool.mp rv
    exact hQ D ω' s2 O2 f3
end TextPX
section TextPY
noncomputable def lawCx (w : World) (G : Heap) (os : OsState) (loose : List Str) (mean : ExcName → Option Value) (mg mb : Str → Option Value) (sc : Scope) (L fa : Addr) (cd : Value) : Cx where
  w := w
  G := G
  bx := 15
  os := os
  p := topProg
  loose := loose
  mean := mean
  mg := mg
  mb := mb
  A := callerA.deeper (envOf "law" sc L fa cd)
  d := 30
  cn := "law"
  cs := sc
  L := L
  a := fa
  ccd := cd
  cl := []
  outer := []
  he := G
  vars := ["script", "box", "bits", "turn", "a", "b"]
  own := false
noncomputable def tupIn (K : Frag) (a : Nat) : Bool := match K.lookup a with
  | some ⟨.type t, _, .seq _ _, _⟩ => t == "tuple"
  | _ => false
theorem one_tup (w : World) : tupIn (hd.heap_39 w.params) 15 = true := by kernel_rfl
theorem one_at (w : World) : ∃ od vs n sl, (hd.heap_39 w.params).lookup 15 = some ⟨.type "tuple", od, .seq vs n, sl⟩ := by
  have h := one_tup w
  unfold tupIn at h
  split at h
  · rename_i t od vs n sl e
    have ht : t = "tuple" := by simpa using h
    subst ht
    exact ⟨od, vs, n, sl, e⟩
  · cases h
theorem ints_vr {bx : Addr} {h : Heap} {vals : List Value} {ns : List Int} (x : IntsAre vals ns) : VrL bx h (ns.map .int) vals := by
  induction x with
  | nil => exact vrl_nil.mpr rfl
  | cons n t _ ih => exact vrl_cons.mpr ⟨_, _, rfl, vr_int', ih⟩
theorem lawCx_ok {w : World} {G : Heap} {os : OsState} {loose : List Str} {mean : ExcName → Option Value} {mg mb : Str → Option Value} {sc : Scope} {L fa : Addr} {cd : Value}
    (X : (hd.heap_39 w.params).In G) (T : Top topProg loose mean mg mb G) (hA : CodeHd G 336 334) (hB : CodeHd G 331 327) (nA : G.get? 334 = none) (nB : G.get? 327 = none) (hk : sc.kind = .function) (hL : G.objs.size ≤ L) :
    (lawCx w G os loose mean mg mb sc L fa cd).Ok where
  st := ⟨X, T, hA, hB, nA, nB⟩
  hand := rfl
  frames := rfl
  guards := rfl
  depth := by show callerA.depth + 1 + 30 < _; decide +kernel
  units := by show callerA.units + 3 + 20 * 30 < _; decide +kernel
  kind := hk
  above := hL
  heL := Heap.get?_none_of_le hL
  cells := fun _ _ e => by cases e
  inj := fun _ _ _ e => by cases e
  outL := fun _ e => by cases e
  nodup := by show (["script", "box", "bits", "turn", "a", "b"] : List Str).Nodup; decide +kernel
theorem lawCx_fr {w : World} {s : Shared} {G : Heap} {os : OsState} {loose : List Str} {mean : ExcName → Option Value} {mg mb : Str → Option Value} {sc : Scope} {L fa a : Addr} {cd : Value} {m : Str → Option Value} {vals : List Value} {ns : List Int}
    (X : (hd.heap_39 w.params).In G) (hg : s.gens = #[]) (hos : s.os = os) (F : Fr G L s.heap m) (N : News G L s.heap [(334, tabObj #[]), (327, tabObj #[])]) (hm : m "script" = some (.ref a)) (hl : G.IsList a vals.toArray) (hI : IntsAre vals ns)
    (hsc : sc.names.lookup ("script" : Str) = some .local) :
    FrI (lawCx w G os loose mean mg mb sc L fa cd) [some (.lst (ns.map .int)), none, none, none, none, none] none s := by
  obtain ⟨od, vs, n, sl, e15⟩ := one_at w
  have g15 := X _ _ e15
  have tab : ∀ P q, s.heap.get? P = some (tabObj #[]) → TabI s.heap P q := fun P q e => ⟨#[], e, trivial, fun pos cv hc => by cases hc⟩
  exact {
    inv := {
      gens := hg
      os := hos
      stays := F.keep
      tabA := tab _ _ (N.get (.head _))
      tabB := tab _ _ (N.get (.tail _ (.head _)))
      bxs := ⟨_, _, _, F.keep _ _ g15, rfl⟩
      box := fun _ _ q => by cases q }
    ff := fun _ e => by cases e
    kp := .of_keeps F.keep
    ns := ⟨m, F.ns⟩
    cel := fun _ _ e => by cases e
    vars := fun i pv e => by
      match i, e with
      | 0, e =>
        cases e
        obtain ⟨o, ho, hc, k, hd⟩ := hl
        refine ⟨"script", .ref a, rfl, .inl ⟨hsc, m, F.ns, hm⟩, vr_lst.mpr ⟨a, o, vals.toArray, k, rfl, ?_, F.keep _ _ ho, hc, hd, ?_⟩⟩
        · intro q
          rw [show a = 15 from q, g15] at ho
          cases ho
          exact absurd (Value.type.inj hc) (by decide)
        · exact ints_vr hI
      | 1, e => cases e
      | 2, e => cases e
      | 3, e => cases e
      | 4, e => cases e
      | 5, e => cases e
      | j + 6, e => simp [Store.get] at e }
theorem grown_of {c : St} {ω : Om} {s : Shared} (x : Inv c ω s) : GrownAll [(336, 334), (331, 327)] s.heap :=
  let ⟨ps, e, _⟩ := x.tabA
  let ⟨qs, e', _⟩ := x.tabB
  ⟨⟨ps, e⟩, ⟨qs, e'⟩, trivial⟩
end TextPY
section TextPZ
theorem Res_ok {p : PV} {K : PV → Prop} {X : Str → Prop} (h : K p) : Res (.ok p) K X := h
theorem law_true : PySem.Challenge.rw_pc0008_01.Holds := hd (by
  intro w s₀ s₁ mg mb G Y fa o pm cd doc dV kV ho hd hcd hD hmg hg args vals as hpre hlay hrd hwl hlo
  have KX := km_in_of Y
  km_tabs Y
  have X := (Ground.X G).1
  have V := (Ground.X G).2
  refine Ground.open G ?_
  intro T B D TE TW
  try (refine guard_noD D (by decide +kernel) ?_; clear D)
  have hT9 : TabsAt ([(336, 334), (331, 327)] : List (Addr × Addr)) _ :=
    List.forall_mem_cons.mpr ⟨⟨codeHd_of_K (c := 336) (P := 334) KX (by kernel_rfl), hT8 334 (by k_mem)⟩,
      List.forall_mem_cons.mpr ⟨⟨codeHd_of_K (c := 331) (P := 327) KX (by kernel_rfl), hT8 327 (by k_mem)⟩, fun _ h => nomatch h⟩⟩
  clear hmg
  wrow_args hpre hlay hrd hwl hlo
  refine enter_call ?_
  w_top on
  kn_posts
  w_call any ho hd hcd hD T F
  clear hd
  kn_ghosts F T
  rename_i ns hs hlay0 hL1 hr1 hl2 w4 w3 w2 vals was hL ra w1 r0 hI hr hc1 hc2 h₁ X' T' K' F' codeHdA N' l0
  have hlen : ns.length ≤ 2 ^ 20 := by omega
  refine law_enter (c := lawCx w (ghostOf s₁.heap [(336, 334), (331, 327)]) s₁.os _ _ mg mb _ s₁.heap.objs.size fa cd) (ps := ns.map .int) ⟨lawCx_ok X' T' codeHdA codeHd (N'.fresh (.head _)) (N'.fresh (.tail _ (.head _))) rfl F'.above, rfl, rfl, Nat.le_refl _⟩ rfl rfl rfl rfl
    (fun p hp => by obtain ⟨i, _, rfl⟩ := List.mem_map.mp hp; exact ⟨i, rfl⟩) (by rw [List.length_map]; exact hlen) (lawCx_fr X' hg rfl F' N' rfl lifted hI rfl) ?walk ?fin
  case fin =>
    intro D ω s' O2 f2
    obtain ⟨m, F⟩ := f2.fr O2
    exact ⟨goodW_bool F f2.inv.gens (raisesW_false (by wrow_none_raised)) (by wrow_post) f2.inv.os, grown_of f2.inv⟩
  case walk =>
    intro c F r hr
    have hdF := F.dep
    refine SS_mid (fun ρ' ω' => ∃ b b0 b1, ω' = some (b0, b1) ∧ 0 ≤ b0 ∧ 4 ≤ b ∧ b ≤ 16 ∧ ρ' = [none, some .box, some (.int b), none, none, none]) ?_ ?_
    · repeat' walk_at "w"
      refine J_take F.ok (by omega) hr (by omega) (by omega) (fun r' b0' h0 h1 h2 => ?_)
      repeat' walk_at "w"
      exact ⟨_, _, _, rfl, h2, by omega, by omega, rfl⟩
    rintro _ _ ⟨b, b0, b1, rfl, hb0, h4, h16, rfl⟩
    refine SS_mid (fun ρ' ω' => ω' = some (b0, b1) ∧ ρ' = [none, some .box, some (.int b), none, none, none]) ?_ ?_
    · repeat' walk_at "w"
      refine J_reckoned_q (v := .i 7) (u := .i (-2)) (f := rest) F.ok (by omega) (.inr ⟨rfl, rfl⟩) (by unfold Va.Ok; decide) (by unfold Va.Ok; decide) (by omega) (by omega) (by omega) (by omega) ?_
      rw [resQ_seven h4]
      refine Res_ok ?_
      repeat' walk_at "w"
      refine J_seven F.ok (by omega) ?_
      repeat' walk_at "w"
      exact ⟨rfl, rfl⟩
    rintro _ _ ⟨rfl, rfl⟩
    refine SS_mid (fun ρ' ω' => ∃ b0 b1 x y z, ω' = some (b0, b1) ∧ 0 ≤ b0 ∧ ρ' = [none, some .box, some (.int b), x, y, z]) ?_ ?_
    · refine S_forR F.ok (i := 3) (by rw [F.vars]; exact rfl) (.inl (by rw [F.cs]; exact rfl)) (by rw [F.cs]; exact rfl) rfl (fun k ρ' ω' => ∃ b0 b1 x y z, ω' = some (b0, b1) ∧ 0 ≤ b0 ∧ ρ' = [none, some .box, some (.int b), x, y, z]) ?_
      refine SE_int ⟨4, rfl, by decide, ⟨_, _, _, _, _, rfl, hb0, rfl⟩, ?_, fun _ _ q => q⟩
      rintro k hk _ _ ⟨b0, b1, x, y, z, rfl, hb0, rfl⟩
      refine ⟨Nat.le_of_ble_eq_true rfl, ?_⟩
      refine SS_mid (fun ρ' ω' => ∃ v u : Va, v.Ok ∧ u.Ok ∧ (∀ n, v = .i n → fitsM n b = true) ∧ (∀ n, u = .i n → fitsM n b = true) ∧ ∃ b0 b1 x, ω' = some (b0, b1) ∧ 0 ≤ b0 ∧ ρ' = [none, some .box, some (.int b), x, some v.pv, some u.pv]) ?_ ?_
      · repeat' walk_at "w"
        refine J_law_value F.ok (by omega) hb0 h4 h16 fun v c0 c1 hv hvi g0 => ?_
        repeat' walk_at "w"
        refine J_law_value F.ok (by omega) g0 h4 h16 fun u d0 d1 hu hui g1 => ?_
        repeat' walk_at "w"
        exact ⟨v, u, hv, hu, hvi, hui, _, _, _, rfl, g1, rfl⟩
      rintro _ _ ⟨v, u, hv, hu, hvi, hui, b0, b1, x, rfl, hb0, rfl⟩
      refine SS_mid (fun ρ' ω' => ω' = some (b0, b1) ∧ ρ' = [none, some .box, some (.int b), x, some v.pv, some u.pv]) ?_ ?_
      · repeat' walk_at "w"
        refine J_pair F.ok (by omega) hv hu hvi hui h4 h16 ?_
        repeat' walk_at "w"
        refine J_order F.ok (by omega) hv hu ?_
        repeat' walk_at "w"
        exact ⟨rfl, rfl⟩
      rintro _ _ ⟨rfl, rfl⟩
      by_cases hI : v.isI = true
      · obtain ⟨n, rfl⟩ := isI_iff hI
        have hn := fits_bd (hvi n rfl) h16
        show SS c _ [none, some .box, some (.int b), x, some (.int n), some u.pv] _ _ _ _
        repeat' walk_at "w"
        refine J_inverted F.ok (by omega) (by omega) (by omega) (by omega) (hvi n rfl) ?_
        repeat' walk_at "w"
        refine Br_dec (fun _ => ?_) (fun q => absurd (show (-1 - n : Int) = 0 - n - 1 by omega) q)
        repeat' walk_at "w"
        refine J_negated F.ok (by omega) (by omega) (by omega) (by omega) (by omega) (by show (n.natAbs : Int) < 10 ^ 9; omega) ?_
        have rk := repr_kept (n := 0 - n) (b := b) (by omega)
        repeat' walk_at "w"
        refine k_repr rk ?_
        repeat' walk_at "w"
        refine J_kept F.ok (by omega) (by omega) (by omega) ?_
        repeat' walk_at "w"
        refine k_repr rk ?_
        repeat' walk_at "w"
        refine Br_dec (fun _ => ?_) (fun q => absurd rfl q)
        repeat' walk_at "w"
        exact ⟨_, _, _, _, _, rfl, hb0, rfl⟩
      · have hI : v.isI = false := by revert hI; cases v.isI <;> simp
        repeat' walk_at "w"
        rw [hI]
        repeat' walk_at "w"
        rw [hI]
        repeat' walk_at "w"
        exact ⟨_, _, _, _, _, rfl, hb0, rfl⟩
    rintro _ _ ⟨b0, b1, x, y, z, rfl, hb0, rfl⟩
    repeat' walk_at "w"
    rfl)
end TextPZ
end Mine
end Walks
theorem PySem.Challenge.cw_pc0008_01_holds : PySem.Challenge.rw_pc0008_01.Holds :=
  Mine.law_true
