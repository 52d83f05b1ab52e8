import PyProof.Rows.All
import Wide.All
import OpenK.AllK
import Wide.FinOn
import PySem.Challenge.RW_ov0081_01
set_option Elab.async false
set_option maxRecDepth 100000
set_option maxHeartbeats 8000000
set_option linter.unusedVariables false
namespace Mine
open PySem PySem.W PyProof.Rows PySem.Calls
section
noncomputable def nthS : Nat → List Stmt → Stmt
  | _, [] => .Pass ⟨0, 0, 0, 0⟩
  | 0, s :: _ => s
  | n + 1, _ :: r => nthS n r
noncomputable def at_ (i : Nat) : Stmt := nthS i PySem.Challenge.pw_ov0081_01.main.body
noncomputable def inC (s : Stmt) (i : Nat) : Stmt := match s with
  | .ClassDef _ _ _ b .. => nthS i b
  | s => s
noncomputable def fO (st : Stmt) (name qual : Str) (g : Nat) (cl : List (Str × Nat)) (df kd dc pm : Value) (an : Option Nat) (co ct : Value) (bi : Nat)
    {n : Str} {ar : Arguments} {bo : List Stmt} {de : List PySem.Expr} {re : Option PySem.Expr} {tp : List TypeParam} {sc : Scope} {ts : Option Scope} {bn : Str} {po : Pos}
    (_ : st = .FunctionDef n ar bo de re tp sc ts bn po) : Obj :=
  .mk (.type "function") none (.func (.mk name qual ar (.stmts bo) sc g cl df kd dc pm an co ct bi)) #[]
noncomputable def cO (vs : Array Value) : Obj := .mk (.type "code") none (.fields vs) #[]
noncomputable def hd.heap_39 : Params → Frag := fun P => by
  refine' (fun (l : List (Nat × Obj)) (_ : l = (
    (nat_lit 2, PySem.Obj.mk .none none (PySem.Data.dict #[(PySem.DictEntry.mk (PySem.PyData.keyHash P (.ofString "type.__subclasses__.Exception.0")) (.str (.ofString "type.__subclasses__.Exception.0") 212) (.int 31 0)), (PySem.DictEntry.mk (PySem.PyData.keyHash P (.ofString "type.__subclasses__.Exception.n")) (.str (.ofString "type.__subclasses__.Exception.n") 213) (.int 1 0))] 2) #[]) ::
    (nat_lit 3, PySem.Obj.mk (.type "dict") none (PySem.Data.dict #[(PySem.DictEntry.mk (PySem.PyData.keyHash P (.ofString "__name__")) (.str (.ofString "__name__") 165) (.str (.ofString "law_ov0081_01") 1002)), (PySem.DictEntry.mk (PySem.PyData.keyHash P (.ofString "__doc__")) (.str (.ofString "__doc__") 166) .none), (PySem.DictEntry.mk (PySem.PyData.keyHash P (.ofString "__package__")) (.str (.ofString "__package__") 167) .none), (PySem.DictEntry.mk (PySem.PyData.keyHash P (.ofString "__loader__")) (.str (.ofString "__loader__") 168) (.builtin "__main__.__loader__#opaque")), (PySem.DictEntry.mk (PySem.PyData.keyHash P (.ofString "__spec__")) (.str (.ofString "__spec__") 169) .none), (PySem.DictEntry.mk (PySem.PyData.keyHash P (.ofString "__annotations__")) (.str (.ofString "__annotations__") 170) (.ref 6)), (PySem.DictEntry.mk (PySem.PyData.keyHash P (.ofString "__builtins__")) (.str (.ofString "__builtins__") 171) (.ref 4)), (PySem.DictEntry.mk (PySem.PyData.keyHash P (.ofString "__file__")) (.str (.ofString "__file__") 173) (.str (.ofString "/claim/cut.py") 172)), (PySem.DictEntry.mk (PySem.PyData.keyHash P (.ofString "__cached__")) (.str (.ofString "__cached__") 174) .none), (PySem.DictEntry.mk (PySem.PyData.keyHash P (.ofString "_wall")) (.str (.ofString "_wall") 193) (.ref 21)), (PySem.DictEntry.mk (PySem.PyData.keyHash P (.ofString "CoveError")) (.str (.ofString "CoveError") 215) (.ref 31)), (PySem.DictEntry.mk (PySem.PyData.keyHash P (.ofString "Refusal")) (.str (.ofString "Refusal") 240) (.ref 51)), (PySem.DictEntry.mk (PySem.PyData.keyHash P (.ofString "Null")) (.str (.ofString "Null") 271) (.ref 70)), (PySem.DictEntry.mk (PySem.PyData.keyHash P (.ofString "Vector")) (.str (.ofString "Vector") 313) (.ref 99)), (PySem.DictEntry.mk (PySem.PyData.keyHash P (.ofString "integer")) (.str (.ofString "integer") 320) (.ref 110)), (PySem.DictEntry.mk (PySem.PyData.keyHash P (.ofString "character")) (.str (.ofString "character") 327) (.ref 117)), (PySem.DictEntry.mk (PySem.PyData.keyHash P (.ofString "length")) (.str (.ofString "length") 335) (.ref 124)), (PySem.DictEntry.mk (PySem.PyData.keyHash P (.ofString "is_atomic")) (.str (.ofString "is_atomic") 342) (.ref 131)), (PySem.DictEntry.mk (PySem.PyData.keyHash P (.ofString "share")) (.str (.ofString "share") 349) (.ref 138)), (PySem.DictEntry.mk (PySem.PyData.keyHash P (.ofString "get_attr")) (.str (.ofString "get_attr") 359) (.ref 145)), (PySem.DictEntry.mk (PySem.PyData.keyHash P (.ofString "names_of")) (.str (.ofString "names_of") 365) (.ref 150)), (PySem.DictEntry.mk (PySem.PyData.keyHash P (.ofString "dim_of")) (.str (.ofString "dim_of") 373) (.ref 157)), (PySem.DictEntry.mk (PySem.PyData.keyHash P (.ofString "dimnames_of")) (.str (.ofString "dimnames_of") 379) (.ref 162)), (PySem.DictEntry.mk (PySem.PyData.keyHash P (.ofString "NAN")) (.str (.ofString "NAN") 384) (.ref 163)), (PySem.DictEntry.mk (PySem.PyData.keyHash P (.ofString "INF")) (.str (.ofString "INF") 387) (.ref 164)), (PySem.DictEntry.mk (PySem.PyData.keyHash P (.ofString "ZERO")) (.str (.ofString "ZERO") 390) (.ref 165)), (PySem.DictEntry.mk (PySem.PyData.keyHash P (.ofString "gcd")) (.str (.ofString "gcd") 398) (.ref 172)), (PySem.DictEntry.mk (PySem.PyData.keyHash P (.ofString "make")) (.str (.ofString "make") 407) (.ref 179)), (PySem.DictEntry.mk (PySem.PyData.keyHash P (.ofString "from_int")) (.str (.ofString "from_int") 414) (.ref 186)), (PySem.DictEntry.mk (PySem.PyData.keyHash P (.ofString "is_na")) (.str (.ofString "is_na") 421) (.ref 193)), (PySem.DictEntry.mk (PySem.PyData.keyHash P (.ofString "is_finite")) (.str (.ofString "is_finite") 428) (.ref 200)), (PySem.DictEntry.mk (PySem.PyData.keyHash P (.ofString "neg")) (.str (.ofString "neg") 435) (.ref 207)), (PySem.DictEntry.mk (PySem.PyData.keyHash P (.ofString "to_whole")) (.str (.ofString "to_whole") 443) (.ref 214)), (PySem.DictEntry.mk (PySem.PyData.keyHash P (.ofString "nearest_whole")) (.str (.ofString "nearest_whole") 453) (.ref 221)), (PySem.DictEntry.mk (PySem.PyData.keyHash P (.ofString "exponent")) (.str (.ofString "exponent") 463) (.ref 228)), (PySem.DictEntry.mk (PySem.PyData.keyHash P (.ofString "MOST_EXPONENT")) (.str (.ofString "MOST_EXPONENT") 467) (.int 4096 466)), (PySem.DictEntry.mk (PySem.PyData.keyHash P (.ofString "whole_text")) (.str (.ofString "whole_text") 477) (.ref 235)), (PySem.DictEntry.mk (PySem.PyData.keyHash P (.ofString "special_text")) (.str (.ofString "special_text") 484) (.ref 242)), (PySem.DictEntry.mk (PySem.PyData.keyHash P (.ofString "scaled")) (.str (.ofString "scaled") 494) (.ref 249)), (PySem.DictEntry.mk (PySem.PyData.keyHash P (.ofString "significant")) (.str (.ofString "significant") 504) (.ref 256)), (PySem.DictEntry.mk (PySem.PyData.keyHash P (.ofString "without_tail")) (.str (.ofString "without_tail") 512) (.ref 263)), (PySem.DictEntry.mk (PySem.PyData.keyHash P (.ofString "scientific_text")) (.str (.ofString "scientific_text") 524) (.ref 270)), (PySem.DictEntry.mk (PySem.PyData.keyHash P (.ofString "fixed_text")) (.str (.ofString "fixed_text") 534) (.ref 277)), (PySem.DictEntry.mk (PySem.PyData.keyHash P (.ofString "measures")) (.str (.ofString "measures") 547) (.ref 284)), (PySem.DictEntry.mk (PySem.PyData.keyHash P (.ofString "chosen_form")) (.str (.ofString "chosen_form") 564) (.ref 291)), (PySem.DictEntry.mk (PySem.PyData.keyHash P (.ofString "formed")) (.str (.ofString "formed") 573) (.ref 298)), (PySem.DictEntry.mk (PySem.PyData.keyHash P (.ofString "common_texts")) (.str (.ofString "common_texts") 579) (.ref 303)), (PySem.DictEntry.mk (PySem.PyData.keyHash P (.ofString "number_text")) (.str (.ofString "number_text") 588) (.ref 311)), (PySem.DictEntry.mk (PySem.PyData.keyHash P (.ofString "digits_value")) (.str (.ofString "digits_value") 598) (.ref 318)), (PySem.DictEntry.mk (PySem.PyData.keyHash P (.ofString "digit_run")) (.str (.ofString "digit_run") 607) (.ref 325)), (PySem.DictEntry.mk (PySem.PyData.keyHash P (.ofString "exponent_value")) (.str (.ofString "exponent_value") 616) (.ref 332)), (PySem.DictEntry.mk (PySem.PyData.keyHash P (.ofString "powered")) (.str (.ofString "powered") 625) (.ref 339)), (PySem.DictEntry.mk (PySem.PyData.keyHash P (.ofString "unsigned_number")) (.str (.ofString "unsigned_number") 644) (.ref 346)), (PySem.DictEntry.mk (PySem.PyData.keyHash P (.ofString "parse_number")) (.str (.ofString "parse_number") 656) (.ref 353)), (PySem.DictEntry.mk (PySem.PyData.keyHash P (.ofString "MOST_INTEGER")) (.str (.ofString "MOST_INTEGER") 660) (.int 2147483647 659)), (PySem.DictEntry.mk (PySem.PyData.keyHash P (.ofString "kind_order")) (.str (.ofString "kind_order") 668) (.ref 360)), (PySem.DictEntry.mk (PySem.PyData.keyHash P (.ofString "common_kind")) (.str (.ofString "common_kind") 678) (.ref 367)), (PySem.DictEntry.mk (PySem.PyData.keyHash P (.ofString "note")) (.str (.ofString "note") 686) (.ref 374)), (PySem.DictEntry.mk (PySem.PyData.keyHash P (.ofString "as_logical_text")) (.str (.ofString "as_logical_text") 693) (.ref 381)), (PySem.DictEntry.mk (PySem.PyData.keyHash P (.ofString "double_to_integer")) (.str (.ofString "double_to_integer") 702) (.ref 388)), (PySem.DictEntry.mk (PySem.PyData.keyHash P (.ofString "text_to_double")) (.str (.ofString "text_to_double") 712) (.ref 395)), (PySem.DictEntry.mk (PySem.PyData.keyHash P (.ofString "to_logical")) (.str (.ofString "to_logical") 720) (.ref 402)), (PySem.DictEntry.mk (PySem.PyData.keyHash P (.ofString "to_integer")) (.str (.ofString "to_integer") 729) (.ref 409)), (PySem.DictEntry.mk (PySem.PyData.keyHash P (.ofString "to_double")) (.str (.ofString "to_double") 738) (.ref 416)), (PySem.DictEntry.mk (PySem.PyData.keyHash P (.ofString "to_text")) (.str (.ofString "to_text") 746) (.ref 423)), (PySem.DictEntry.mk (PySem.PyData.keyHash P (.ofString "item_as")) (.str (.ofString "item_as") 756) (.ref 430)), (PySem.DictEntry.mk (PySem.PyData.keyHash P (.ofString "is_atomic_kind")) (.str (.ofString "is_atomic_kind") 763) (.ref 437)), (PySem.DictEntry.mk (PySem.PyData.keyHash P (.ofString "list_item_as")) (.str (.ofString "list_item_as") 773) (.ref 444)), (PySem.DictEntry.mk (PySem.PyData.keyHash P (.ofString "refuse_type")) (.str (.ofString "refuse_type") 781) (.ref 451)), (PySem.DictEntry.mk (PySem.PyData.keyHash P (.ofString "as_vector_kind")) (.str (.ofString "as_vector_kind") 787) (.ref 456)), (PySem.DictEntry.mk (PySem.PyData.keyHash P (.ofString "with_names")) (.str (.ofString "with_names") 795) (.ref 463)), (PySem.DictEntry.mk (PySem.PyData.keyHash P (.ofString "as_kind")) (.str (.ofString "as_kind") 801) (.ref 468)), (PySem.DictEntry.mk (PySem.PyData.keyHash P (.ofString "dims")) (.str (.ofString "dims") 810) (.ref 475)), (PySem.DictEntry.mk (PySem.PyData.keyHash P (.ofString "is_matrix")) (.str (.ofString "is_matrix") 818) (.ref 482)), (PySem.DictEntry.mk (PySem.PyData.keyHash P (.ofString "shape_of")) (.str (.ofString "shape_of") 825) (.ref 489)), (PySem.DictEntry.mk (PySem.PyData.keyHash P (.ofString "axis_names")) (.str (.ofString "axis_names") 834) (.ref 496)), (PySem.DictEntry.mk (PySem.PyData.keyHash P (.ofString "plain_names")) (.str (.ofString "plain_names") 841) (.ref 503)), (PySem.DictEntry.mk (PySem.PyData.keyHash P (.ofString "dimnames_list")) (.str (.ofString "dimnames_list") 847) (.ref 508)), (PySem.DictEntry.mk (PySem.PyData.keyHash P (.ofString "new_array")) (.str (.ofString "new_array") 859) (.ref 515)), (PySem.DictEntry.mk (PySem.PyData.keyHash P (.ofString "new_matrix")) (.str (.ofString "new_matrix") 870) (.ref 522)), (PySem.DictEntry.mk (PySem.PyData.keyHash P (.ofString "column_items")) (.str (.ofString "column_items") 879) (.ref 529)), (PySem.DictEntry.mk (PySem.PyData.keyHash P (.ofString "transpose")) (.str (.ofString "transpose") 892) (.ref 536)), (PySem.DictEntry.mk (PySem.PyData.keyHash P (.ofString "joined_kind")) (.str (.ofString "joined_kind") 898) (.ref 541)), (PySem.DictEntry.mk (PySem.PyData.keyHash P (.ofString "bound_extent")) (.str (.ofString "bound_extent") 913) (.ref 548)), (PySem.DictEntry.mk (PySem.PyData.keyHash P (.ofString "kept_places")) (.str (.ofString "kept_places") 924) (.ref 555)), (PySem.DictEntry.mk (PySem.PyData.keyHash P (.ofString "note_recycling")) (.str (.ofString "note_recycling") 938) (.ref 562)), (PySem.DictEntry.mk (PySem.PyData.keyHash P (.ofString "part_columns")) (.str (.ofString "part_columns") 944) (.ref 567)), (PySem.DictEntry.mk (PySem.PyData.keyHash P (.ofString "part_heads")) (.str (.ofString "part_heads") 953) (.ref 574)), (PySem.DictEntry.mk (PySem.PyData.keyHash P (.ofString "bound_row_names")) (.str (.ofString "bound_row_names") 965) (.ref 581)), (PySem.DictEntry.mk (PySem.PyData.keyHash P (.ofString "bind_by")) (.str (.ofString "bind_by") 971) (.ref 586)), (PySem.DictEntry.mk (PySem.PyData.keyHash P (.ofString "column_as")) (.str (.ofString "column_as") 980) (.ref 593)), (PySem.DictEntry.mk (PySem.PyData.keyHash P (.ofString "bind_cols")) (.str (.ofString "bind_cols") 989) (.ref 600)), (PySem.DictEntry.mk (PySem.PyData.keyHash P (.ofString "bind_rows")) (.str (.ofString "bind_rows") 1001) (.ref 607)), (PySem.DictEntry.mk (PySem.PyData.keyHash P (.ofString "_law_next")) (.str (.ofString "_law_next") 1015) (.ref 614)), (PySem.DictEntry.mk (PySem.PyData.keyHash P (.ofString "_law_entry")) (.str (.ofString "_law_entry") 1023) (.ref 621)), (PySem.DictEntry.mk (PySem.PyData.keyHash P (.ofString "_law_block")) (.str (.ofString "_law_block") 1029) (.ref 626)), (PySem.DictEntry.mk (PySem.PyData.keyHash P (.ofString "_law_names")) (.str (.ofString "_law_names") 1037) (.ref 633)), (PySem.DictEntry.mk (PySem.PyData.keyHash P (.ofString "_law_widest")) (.str (.ofString "_law_widest") 1046) (.ref 640)), (PySem.DictEntry.mk (PySem.PyData.keyHash P (.ofString "_law_as")) (.str (.ofString "_law_as") 1055) (.ref 647)), (PySem.DictEntry.mk (PySem.PyData.keyHash P (.ofString "_law_whole")) (.str (.ofString "_law_whole") 1062) (.ref 654)), (PySem.DictEntry.mk (PySem.PyData.keyHash P (.ofString "_law_due")) (.str (.ofString "_law_due") 1080) (.ref 661)), (PySem.DictEntry.mk (PySem.PyData.keyHash P (.ofString "_law_vector_row")) (.str (.ofString "_law_vector_row") 1086) (.ref 666)), (PySem.DictEntry.mk (PySem.PyData.keyHash P (.ofString "_law_refused")) (.str (.ofString "_law_refused") 1096) (.ref 673)), (PySem.DictEntry.mk (PySem.PyData.keyHash P (.ofString "law")) (.str (.ofString "law") 1102) (.ref 678))] 104) #[]) ::
    (nat_lit 30, PySem.Obj.mk (.type "dict") none (PySem.Data.dict #[(PySem.DictEntry.mk (PySem.PyData.keyHash P (.ofString "__module__")) (.str (.ofString "__module__") 203) (.str (.ofString "vectorcove.errors") 194)), (PySem.DictEntry.mk (PySem.PyData.keyHash P (.ofString "__firstlineno__")) (.str (.ofString "__firstlineno__") 207) (.int 5 206)), (PySem.DictEntry.mk (PySem.PyData.keyHash P (.ofString "__static_attributes__")) (.str (.ofString "__static_attributes__") 208) (.ref 29)), (PySem.DictEntry.mk (PySem.PyData.keyHash P (.ofString "__weakref__")) (.str (.ofString "__weakref__") 210) (.ref 32)), (PySem.DictEntry.mk (PySem.PyData.keyHash P (.ofString "__doc__")) (.str (.ofString "__doc__") 211) .none)] 3) #[]) ::
    (nat_lit 31, PySem.Obj.mk (.type "type") none (PySem.Data.cls (PySem.ClassData.mk (.ofString "CoveError") [(.type "Exception")] [(.ref 31), (.type "Exception"), (.type "BaseException"), (.type "object")] 30 (.ofString "CoveError") Bool.true [] [(.ref 51)] Bool.false none Bool.false)) #[(some (.ref 22)), none, (some (.str (.ofString "CoveError") 196)), (some (.str (.ofString "CoveError") 204)), (some (.builtin "Exception.__new__")), (some (.bool Bool.true))]) ::
    (nat_lit 32, PySem.Obj.mk (.type "getset_descriptor") none (PySem.Data.fields #[(.str (.ofString "__weakref__") 209), (.ref 31), (.builtin "ExceptionGroup.__weakref__"), .none]) #[]) ::
    (nat_lit 47, cO #[(.str (.ofString "__init__") 228), (.str (.ofString "Refusal.__init__") 229), (.str (.ofString "/claim/cut.py") 230), (.int 9 0), (.int 2 0), (.int 0 0), (.int 0 0), (.int 3 0), (.ref 42), (.bool Bool.true), (.int 181 0), (.ref 43), .none, (.ref 44), (.ref 45), (.ref 46), (.int 233 0), (.int 9 0), (.str (.ofString "/claim/cut.py") 234)]) ::
    (nat_lit 48, fO (inC (at_ 3) 0) (.ofString "__init__") (.ofString "Refusal.__init__") 3 [] .none .none .none (.str (.ofString "vectorcove.errors") 194) none (.ref 47) .none 0 rfl) ::
    (nat_lit 50, PySem.Obj.mk (.type "dict") none (PySem.Data.dict #[(PySem.DictEntry.mk (PySem.PyData.keyHash P (.ofString "__module__")) (.str (.ofString "__module__") 223) (.str (.ofString "vectorcove.errors") 194)), (PySem.DictEntry.mk (PySem.PyData.keyHash P (.ofString "__firstlineno__")) (.str (.ofString "__firstlineno__") 227) (.int 7 226)), (PySem.DictEntry.mk (PySem.PyData.keyHash P (.ofString "__init__")) (.str (.ofString "__init__") 235) (.ref 48)), (PySem.DictEntry.mk (PySem.PyData.keyHash P (.ofString "__static_attributes__")) (.str (.ofString "__static_attributes__") 237) (.ref 49)), (PySem.DictEntry.mk (PySem.PyData.keyHash P (.ofString "__doc__")) (.str (.ofString "__doc__") 238) .none)] 2) #[]) ::
    (nat_lit 51, PySem.Obj.mk (.type "type") none (PySem.Data.cls (PySem.ClassData.mk (.ofString "Refusal") [(.ref 31)] [(.ref 51), (.ref 31), (.type "Exception"), (.type "BaseException"), (.type "object")] 50 (.ofString "Refusal") Bool.true [] [] Bool.false none Bool.false)) #[(some (.ref 35)), none, (some (.str (.ofString "Refusal") 216)), (some (.str (.ofString "Refusal") 224)), (some (.builtin "Exception.__new__")), (some (.bool Bool.true))]) ::
    (nat_lit 66, cO #[(.str (.ofString "__init__") 255), (.str (.ofString "Null.__init__") 256), (.str (.ofString "/claim/cut.py") 257), (.int 14 0), (.int 1 0), (.int 0 0), (.int 0 0), (.int 3 0), (.ref 61), (.bool Bool.true), (.int 181 0), (.ref 62), .none, (.ref 63), (.ref 64), (.ref 65), (.int 259 0), (.int 14 0), (.str (.ofString "/claim/cut.py") 260)]) ::
    (nat_lit 67, fO (inC (at_ 5) 0) (.ofString "__init__") (.ofString "Null.__init__") 3 [] .none .none .none (.str (.ofString "vectorcove.values") 241) none (.ref 66) .none 0 rfl) ::
    (nat_lit 69, PySem.Obj.mk (.type "dict") none (PySem.Data.dict #[(PySem.DictEntry.mk (PySem.PyData.keyHash P (.ofString "__module__")) (.str (.ofString "__module__") 250) (.str (.ofString "vectorcove.values") 241)), (PySem.DictEntry.mk (PySem.PyData.keyHash P (.ofString "__firstlineno__")) (.str (.ofString "__firstlineno__") 254) (.int 12 253)), (PySem.DictEntry.mk (PySem.PyData.keyHash P (.ofString "__init__")) (.str (.ofString "__init__") 261) (.ref 67)), (PySem.DictEntry.mk (PySem.PyData.keyHash P (.ofString "__static_attributes__")) (.str (.ofString "__static_attributes__") 264) (.ref 68)), (PySem.DictEntry.mk (PySem.PyData.keyHash P (.ofString "__dict__")) (.str (.ofString "__dict__") 266) (.ref 71)), (PySem.DictEntry.mk (PySem.PyData.keyHash P (.ofString "__weakref__")) (.str (.ofString "__weakref__") 268) (.ref 72)), (PySem.DictEntry.mk (PySem.PyData.keyHash P (.ofString "__doc__")) (.str (.ofString "__doc__") 269) .none)] 4) #[]) ::
    (nat_lit 70, PySem.Obj.mk (.type "type") none (PySem.Data.cls (PySem.ClassData.mk (.ofString "Null") [(.type "object")] [(.ref 70), (.type "object")] 69 (.ofString "Null") Bool.true [] [] Bool.false none Bool.false)) #[none, none, (some (.str (.ofString "Null") 243)), (some (.str (.ofString "Null") 251)), (some (.builtin "object.__new__")), (some (.bool Bool.true))]) ::
    (nat_lit 71, PySem.Obj.mk (.type "getset_descriptor") none (PySem.Data.fields #[(.str (.ofString "__dict__") 265), (.ref 70), (.builtin "function.__dict__"), (.builtin "function.__dict__#set")]) #[]) ::
    (nat_lit 72, PySem.Obj.mk (.type "getset_descriptor") none (PySem.Data.fields #[(.str (.ofString "__weakref__") 267), (.ref 70), (.builtin "ExceptionGroup.__weakref__"), .none]) #[]) ::
    (nat_lit 82, PySem.Obj.mk (.type "tuple") none (PySem.Data.seq #[.none] 0) #[]) ::
    (nat_lit 88, cO #[(.str (.ofString "__init__") 284), (.str (.ofString "Vector.__init__") 285), (.str (.ofString "/claim/cut.py") 286), (.int 19 0), (.int 4 0), (.int 0 0), (.int 0 0), (.int 3 0), (.ref 83), (.bool Bool.true), (.int 181 0), (.ref 84), .none, (.ref 85), (.ref 86), (.ref 87), (.int 291 0), (.int 19 0), (.str (.ofString "/claim/cut.py") 292)]) ::
    (nat_lit 89, fO (inC (at_ 6) 0) (.ofString "__init__") (.ofString "Vector.__init__") 3 [] (.ref 82) .none .none (.str (.ofString "vectorcove.values") 241) none (.ref 88) .none 0 rfl) ::
    (nat_lit 98, PySem.Obj.mk (.type "dict") none (PySem.Data.dict #[(PySem.DictEntry.mk (PySem.PyData.keyHash P (.ofString "__module__")) (.str (.ofString "__module__") 279) (.str (.ofString "vectorcove.values") 241)), (PySem.DictEntry.mk (PySem.PyData.keyHash P (.ofString "__firstlineno__")) (.str (.ofString "__firstlineno__") 283) (.int 17 282)), (PySem.DictEntry.mk (PySem.PyData.keyHash P (.ofString "__init__")) (.str (.ofString "__init__") 293) (.ref 89)), (PySem.DictEntry.mk (PySem.PyData.keyHash P (.ofString "copy")) (.str (.ofString "copy") 300) (.ref 96)), (PySem.DictEntry.mk (PySem.PyData.keyHash P (.ofString "__static_attributes__")) (.str (.ofString "__static_attributes__") 306) (.ref 97)), (PySem.DictEntry.mk (PySem.PyData.keyHash P (.ofString "__dict__")) (.str (.ofString "__dict__") 308) (.ref 100)), (PySem.DictEntry.mk (PySem.PyData.keyHash P (.ofString "__weakref__")) (.str (.ofString "__weakref__") 310) (.ref 101)), (PySem.DictEntry.mk (PySem.PyData.keyHash P (.ofString "__doc__")) (.str (.ofString "__doc__") 311) .none)] 4) #[]) ::
    (nat_lit 99, PySem.Obj.mk (.type "type") none (PySem.Data.cls (PySem.ClassData.mk (.ofString "Vector") [(.type "object")] [(.ref 99), (.type "object")] 98 (.ofString "Vector") Bool.true [] [] Bool.false none Bool.false)) #[none, none, (some (.str (.ofString "Vector") 272)), (some (.str (.ofString "Vector") 280)), (some (.builtin "object.__new__")), (some (.bool Bool.true))]) ::
    (nat_lit 100, PySem.Obj.mk (.type "getset_descriptor") none (PySem.Data.fields #[(.str (.ofString "__dict__") 307), (.ref 99), (.builtin "function.__dict__"), (.builtin "function.__dict__#set")]) #[]) ::
    (nat_lit 101, PySem.Obj.mk (.type "getset_descriptor") none (PySem.Data.fields #[(.str (.ofString "__weakref__") 309), (.ref 99), (.builtin "ExceptionGroup.__weakref__"), .none]) #[]) ::
    (nat_lit 109, cO #[(.str (.ofString "integer") 314), (.str (.ofString "integer") 315), (.str (.ofString "/claim/cut.py") 316), (.int 28 0), (.int 1 0), (.int 0 0), (.int 0 0), (.int 3 0), (.ref 104), (.bool Bool.true), (.int 181 0), (.ref 105), .none, (.ref 106), (.ref 107), (.ref 108), (.int 318 0), (.int 28 0), (.str (.ofString "/claim/cut.py") 319)]) ::
    (nat_lit 110, fO (at_ 7) (.ofString "integer") (.ofString "integer") 3 [] .none .none .none (.str (.ofString "vectorcove.values") 241) none (.ref 109) .none 0 rfl) ::
    (nat_lit 116, cO #[(.str (.ofString "character") 321), (.str (.ofString "character") 322), (.str (.ofString "/claim/cut.py") 323), (.int 30 0), (.int 1 0), (.int 0 0), (.int 0 0), (.int 3 0), (.ref 111), (.bool Bool.true), (.int 181 0), (.ref 112), .none, (.ref 113), (.ref 114), (.ref 115), (.int 325 0), (.int 30 0), (.str (.ofString "/claim/cut.py") 326)]) ::
    (nat_lit 117, fO (at_ 8) (.ofString "character") (.ofString "character") 3 [] .none .none .none (.str (.ofString "vectorcove.values") 241) none (.ref 116) .none 0 rfl) ::
    (nat_lit 144, cO #[(.str (.ofString "get_attr") 352), (.str (.ofString "get_attr") 353), (.str (.ofString "/claim/cut.py") 354), (.int 50 0), (.int 2 0), (.int 0 0), (.int 0 0), (.int 3 0), (.ref 139), (.bool Bool.true), (.int 181 0), (.ref 140), .none, (.ref 141), (.ref 142), (.ref 143), (.int 357 0), (.int 50 0), (.str (.ofString "/claim/cut.py") 358)]) ::
    (nat_lit 145, fO (at_ 13) (.ofString "get_attr") (.ofString "get_attr") 3 [] .none .none .none (.str (.ofString "vectorcove.attrs") 350) none (.ref 144) .none 0 rfl) ::
    (nat_lit 149, cO #[(.str (.ofString "names_of") 360), (.str (.ofString "names_of") 361), (.str (.ofString "/claim/cut.py") 362), (.int 54 0), (.int 1 0), (.int 0 0), (.int 0 0), (.int 3 0), (.ref 146), (.bool Bool.true), (.int 181 0), (.ref 147), .none, .none, .none, (.ref 148), (.int 363 0), (.int 54 0), (.str (.ofString "/claim/cut.py") 364)]) ::
    (nat_lit 150, fO (at_ 14) (.ofString "names_of") (.ofString "names_of") 3 [] .none .none .none (.str (.ofString "vectorcove.attrs") 350) none (.ref 149) .none 0 rfl) ::
    (nat_lit 156, cO #[(.str (.ofString "dim_of") 366), (.str (.ofString "dim_of") 367), (.str (.ofString "/claim/cut.py") 368), (.int 70 0), (.int 1 0), (.int 0 0), (.int 0 0), (.int 3 0), (.ref 151), (.bool Bool.true), (.int 181 0), (.ref 152), .none, (.ref 153), (.ref 154), (.ref 155), (.int 371 0), (.int 70 0), (.str (.ofString "/claim/cut.py") 372)]) ::
    (nat_lit 157, fO (at_ 15) (.ofString "dim_of") (.ofString "dim_of") 3 [] .none .none .none (.str (.ofString "vectorcove.attrs") 350) none (.ref 156) .none 0 rfl) ::
    (nat_lit 163, PySem.Obj.mk (.type "tuple") none (PySem.Data.seq #[(.int 0 382), (.int 0 383)] 0) #[]) ::
    (nat_lit 164, PySem.Obj.mk (.type "tuple") none (PySem.Data.seq #[(.int 1 385), (.int 0 386)] 0) #[]) ::
    (nat_lit 165, PySem.Obj.mk (.type "tuple") none (PySem.Data.seq #[(.int 0 388), (.int 1 389)] 0) #[]) ::
    (nat_lit 185, cO #[(.str (.ofString "from_int") 408), (.str (.ofString "from_int") 409), (.str (.ofString "/claim/cut.py") 410), (.int 98 0), (.int 1 0), (.int 0 0), (.int 0 0), (.int 3 0), (.ref 180), (.bool Bool.true), (.int 181 0), (.ref 181), .none, (.ref 182), (.ref 183), (.ref 184), (.int 412 0), (.int 98 0), (.str (.ofString "/claim/cut.py") 413)]) ::
    (nat_lit 186, fO (at_ 23) (.ofString "from_int") (.ofString "from_int") 3 [] .none .none .none (.str (.ofString "vectorcove.rational") 380) none (.ref 185) .none 0 rfl) ::
    (nat_lit 359, cO #[(.str (.ofString "kind_order") 661), (.str (.ofString "kind_order") 662), (.str (.ofString "/claim/cut.py") 663), (.int 307 0), (.int 1 0), (.int 0 0), (.int 0 0), (.int 3 0), (.ref 354), (.bool Bool.true), (.int 181 0), (.ref 355), .none, (.ref 356), (.ref 357), (.ref 358), (.int 666 0), (.int 307 0), (.str (.ofString "/claim/cut.py") 667)]) ::
    (nat_lit 360, fO (at_ 52) (.ofString "kind_order") (.ofString "kind_order") 3 [] .none .none .none (.str (.ofString "vectorcove.coerce") 657) none (.ref 359) .none 0 rfl) ::
    (nat_lit 366, cO #[(.str (.ofString "common_kind") 669), (.str (.ofString "common_kind") 670), (.str (.ofString "/claim/cut.py") 671), (.int 312 0), (.int 1 0), (.int 0 0), (.int 0 0), (.int 3 0), (.ref 361), (.bool Bool.true), (.int 181 0), (.ref 362), .none, (.ref 363), (.ref 364), (.ref 365), (.int 676 0), (.int 312 0), (.str (.ofString "/claim/cut.py") 677)]) ::
    (nat_lit 367, fO (at_ 53) (.ofString "common_kind") (.ofString "common_kind") 3 [] .none .none .none (.str (.ofString "vectorcove.coerce") 657) none (.ref 366) .none 0 rfl) ::
    (nat_lit 408, cO #[(.str (.ofString "to_integer") 721), (.str (.ofString "to_integer") 722), (.str (.ofString "/claim/cut.py") 723), (.int 351 0), (.int 3 0), (.int 0 0), (.int 0 0), (.int 3 0), (.ref 403), (.bool Bool.true), (.int 181 0), (.ref 404), .none, (.ref 405), (.ref 406), (.ref 407), (.int 727 0), (.int 351 0), (.str (.ofString "/claim/cut.py") 728)]) ::
    (nat_lit 409, fO (at_ 59) (.ofString "to_integer") (.ofString "to_integer") 3 [] .none .none .none (.str (.ofString "vectorcove.coerce") 657) none (.ref 408) .none 0 rfl) ::
    (nat_lit 415, cO #[(.str (.ofString "to_double") 730), (.str (.ofString "to_double") 731), (.str (.ofString "/claim/cut.py") 732), (.int 359 0), (.int 3 0), (.int 0 0), (.int 0 0), (.int 3 0), (.ref 410), (.bool Bool.true), (.int 181 0), (.ref 411), .none, (.ref 412), (.ref 413), (.ref 414), (.int 736 0), (.int 359 0), (.str (.ofString "/claim/cut.py") 737)]) ::
    (nat_lit 416, fO (at_ 60) (.ofString "to_double") (.ofString "to_double") 3 [] .none .none .none (.str (.ofString "vectorcove.coerce") 657) none (.ref 415) .none 0 rfl) ::
    (nat_lit 429, cO #[(.str (.ofString "item_as") 747), (.str (.ofString "item_as") 748), (.str (.ofString "/claim/cut.py") 749), (.int 373 0), (.int 4 0), (.int 0 0), (.int 0 0), (.int 3 0), (.ref 424), (.bool Bool.true), (.int 181 0), (.ref 425), .none, (.ref 426), (.ref 427), (.ref 428), (.int 754 0), (.int 373 0), (.str (.ofString "/claim/cut.py") 755)]) ::
    (nat_lit 430, fO (at_ 62) (.ofString "item_as") (.ofString "item_as") 3 [] .none .none .none (.str (.ofString "vectorcove.coerce") 657) none (.ref 429) .none 0 rfl) ::
    (nat_lit 436, cO #[(.str (.ofString "is_atomic_kind") 757), (.str (.ofString "is_atomic_kind") 758), (.str (.ofString "/claim/cut.py") 759), (.int 387 0), (.int 1 0), (.int 0 0), (.int 0 0), (.int 3 0), (.ref 431), (.bool Bool.true), (.int 181 0), (.ref 432), .none, (.ref 433), (.ref 434), (.ref 435), (.int 761 0), (.int 387 0), (.str (.ofString "/claim/cut.py") 762)]) ::
    (nat_lit 437, fO (at_ 63) (.ofString "is_atomic_kind") (.ofString "is_atomic_kind") 3 [] .none .none .none (.str (.ofString "vectorcove.coerce") 657) none (.ref 436) .none 0 rfl) ::
    (nat_lit 462, cO #[(.str (.ofString "with_names") 788), (.str (.ofString "with_names") 789), (.str (.ofString "/claim/cut.py") 790), (.int 411 0), (.int 2 0), (.int 0 0), (.int 0 0), (.int 3 0), (.ref 457), (.bool Bool.true), (.int 181 0), (.ref 458), .none, (.ref 459), (.ref 460), (.ref 461), (.int 793 0), (.int 411 0), (.str (.ofString "/claim/cut.py") 794)]) ::
    (nat_lit 463, fO (at_ 67) (.ofString "with_names") (.ofString "with_names") 3 [] .none .none .none (.str (.ofString "vectorcove.coerce") 657) none (.ref 462) .none 0 rfl) ::
    (nat_lit 467, cO #[(.str (.ofString "as_kind") 796), (.str (.ofString "as_kind") 797), (.str (.ofString "/claim/cut.py") 798), (.int 415 0), (.int 3 0), (.int 0 0), (.int 0 0), (.int 3 0), (.ref 464), (.bool Bool.true), (.int 181 0), (.ref 465), .none, .none, .none, (.ref 466), (.int 799 0), (.int 415 0), (.str (.ofString "/claim/cut.py") 800)]) ::
    (nat_lit 468, fO (at_ 68) (.ofString "as_kind") (.ofString "as_kind") 3 [] .none .none .none (.str (.ofString "vectorcove.coerce") 657) none (.ref 467) .none 0 rfl) ::
    (nat_lit 474, cO #[(.str (.ofString "dims") 804), (.str (.ofString "dims") 805), (.str (.ofString "/claim/cut.py") 806), (.int 423 0), (.int 1 0), (.int 0 0), (.int 0 0), (.int 3 0), (.ref 469), (.bool Bool.true), (.int 181 0), (.ref 470), .none, (.ref 471), (.ref 472), (.ref 473), (.int 808 0), (.int 423 0), (.str (.ofString "/claim/cut.py") 809)]) ::
    (nat_lit 475, fO (at_ 70) (.ofString "dims") (.ofString "dims") 3 [] .none .none .none (.str (.ofString "vectorcove.matrix") 802) none (.ref 474) .none 0 rfl) ::
    (nat_lit 481, cO #[(.str (.ofString "is_matrix") 811), (.str (.ofString "is_matrix") 812), (.str (.ofString "/claim/cut.py") 813), (.int 427 0), (.int 1 0), (.int 0 0), (.int 0 0), (.int 3 0), (.ref 476), (.bool Bool.true), (.int 181 0), (.ref 477), .none, (.ref 478), (.ref 479), (.ref 480), (.int 816 0), (.int 427 0), (.str (.ofString "/claim/cut.py") 817)]) ::
    (nat_lit 482, fO (at_ 71) (.ofString "is_matrix") (.ofString "is_matrix") 3 [] .none .none .none (.str (.ofString "vectorcove.matrix") 802) none (.ref 481) .none 0 rfl) ::
    (nat_lit 488, cO #[(.str (.ofString "shape_of") 819), (.str (.ofString "shape_of") 820), (.str (.ofString "/claim/cut.py") 821), (.int 430 0), (.int 1 0), (.int 0 0), (.int 0 0), (.int 3 0), (.ref 483), (.bool Bool.true), (.int 181 0), (.ref 484), .none, (.ref 485), (.ref 486), (.ref 487), (.int 823 0), (.int 430 0), (.str (.ofString "/claim/cut.py") 824)]) ::
    (nat_lit 489, fO (at_ 72) (.ofString "shape_of") (.ofString "shape_of") 3 [] .none .none .none (.str (.ofString "vectorcove.matrix") 802) none (.ref 488) .none 0 rfl) ::
    (nat_lit 495, cO #[(.str (.ofString "axis_names") 826), (.str (.ofString "axis_names") 827), (.str (.ofString "/claim/cut.py") 828), (.int 434 0), (.int 2 0), (.int 0 0), (.int 0 0), (.int 3 0), (.ref 490), (.bool Bool.true), (.int 181 0), (.ref 491), .none, (.ref 492), (.ref 493), (.ref 494), (.int 832 0), (.int 434 0), (.str (.ofString "/claim/cut.py") 833)]) ::
    (nat_lit 496, fO (at_ 73) (.ofString "axis_names") (.ofString "axis_names") 3 [] .none .none .none (.str (.ofString "vectorcove.matrix") 802) none (.ref 495) .none 0 rfl) ::
    (nat_lit 502, cO #[(.str (.ofString "plain_names") 835), (.str (.ofString "plain_names") 836), (.str (.ofString "/claim/cut.py") 837), (.int 441 0), (.int 1 0), (.int 0 0), (.int 0 0), (.int 3 0), (.ref 497), (.bool Bool.true), (.int 181 0), (.ref 498), .none, (.ref 499), (.ref 500), (.ref 501), (.int 839 0), (.int 441 0), (.str (.ofString "/claim/cut.py") 840)]) ::
    (nat_lit 503, fO (at_ 74) (.ofString "plain_names") (.ofString "plain_names") 3 [] .none .none .none (.str (.ofString "vectorcove.matrix") 802) none (.ref 502) .none 0 rfl) ::
    (nat_lit 507, cO #[(.str (.ofString "dimnames_list") 842), (.str (.ofString "dimnames_list") 843), (.str (.ofString "/claim/cut.py") 844), (.int 445 0), (.int 1 0), (.int 0 0), (.int 0 0), (.int 3 0), (.ref 504), (.bool Bool.true), (.int 181 0), (.ref 505), .none, .none, .none, (.ref 506), (.int 845 0), (.int 445 0), (.str (.ofString "/claim/cut.py") 846)]) ::
    (nat_lit 508, fO (at_ 75) (.ofString "dimnames_list") (.ofString "dimnames_list") 3 [] .none .none .none (.str (.ofString "vectorcove.matrix") 802) none (.ref 507) .none 0 rfl) ::
    (nat_lit 514, cO #[(.str (.ofString "new_array") 848), (.str (.ofString "new_array") 849), (.str (.ofString "/claim/cut.py") 850), (.int 452 0), (.int 4 0), (.int 0 0), (.int 0 0), (.int 3 0), (.ref 509), (.bool Bool.true), (.int 181 0), (.ref 510), .none, (.ref 511), (.ref 512), (.ref 513), (.int 857 0), (.int 452 0), (.str (.ofString "/claim/cut.py") 858)]) ::
    (nat_lit 515, fO (at_ 76) (.ofString "new_array") (.ofString "new_array") 3 [] .none .none .none (.str (.ofString "vectorcove.matrix") 802) none (.ref 514) .none 0 rfl) ::
    (nat_lit 521, cO #[(.str (.ofString "new_matrix") 860), (.str (.ofString "new_matrix") 861), (.str (.ofString "/claim/cut.py") 862), (.int 459 0), (.int 5 0), (.int 0 0), (.int 0 0), (.int 3 0), (.ref 516), (.bool Bool.true), (.int 181 0), (.ref 517), .none, (.ref 518), (.ref 519), (.ref 520), (.int 868 0), (.int 459 0), (.str (.ofString "/claim/cut.py") 869)]) ::
    (nat_lit 522, fO (at_ 77) (.ofString "new_matrix") (.ofString "new_matrix") 3 [] .none .none .none (.str (.ofString "vectorcove.matrix") 802) none (.ref 521) .none 0 rfl) ::
    (nat_lit 528, cO #[(.str (.ofString "column_items") 871), (.str (.ofString "column_items") 872), (.str (.ofString "/claim/cut.py") 873), (.int 461 0), (.int 2 0), (.int 0 0), (.int 0 0), (.int 3 0), (.ref 523), (.bool Bool.true), (.int 181 0), (.ref 524), .none, (.ref 525), (.ref 526), (.ref 527), (.int 877 0), (.int 461 0), (.str (.ofString "/claim/cut.py") 878)]) ::
    (nat_lit 529, fO (at_ 78) (.ofString "column_items") (.ofString "column_items") 3 [] .none .none .none (.str (.ofString "vectorcove.matrix") 802) none (.ref 528) .none 0 rfl) ::
    (nat_lit 535, cO #[(.str (.ofString "transpose") 880), (.str (.ofString "transpose") 881), (.str (.ofString "/claim/cut.py") 882), (.int 464 0), (.int 1 0), (.int 0 0), (.int 0 0), (.int 3 0), (.ref 530), (.bool Bool.true), (.int 181 0), (.ref 531), .none, (.ref 532), (.ref 533), (.ref 534), (.int 890 0), (.int 464 0), (.str (.ofString "/claim/cut.py") 891)]) ::
    (nat_lit 536, fO (at_ 79) (.ofString "transpose") (.ofString "transpose") 3 [] .none .none .none (.str (.ofString "vectorcove.matrix") 802) none (.ref 535) .none 0 rfl) ::
    (nat_lit 540, cO #[(.str (.ofString "joined_kind") 893), (.str (.ofString "joined_kind") 894), (.str (.ofString "/claim/cut.py") 895), (.int 478 0), (.int 1 0), (.int 0 0), (.int 0 0), (.int 3 0), (.ref 537), (.bool Bool.true), (.int 181 0), (.ref 538), .none, .none, .none, (.ref 539), (.int 896 0), (.int 478 0), (.str (.ofString "/claim/cut.py") 897)]) ::
    (nat_lit 541, fO (at_ 80) (.ofString "joined_kind") (.ofString "joined_kind") 3 [] .none .none .none (.str (.ofString "vectorcove.matrix") 802) none (.ref 540) .none 0 rfl) ::
    (nat_lit 547, cO #[(.str (.ofString "bound_extent") 901), (.str (.ofString "bound_extent") 902), (.str (.ofString "/claim/cut.py") 903), (.int 481 0), (.int 2 0), (.int 0 0), (.int 0 0), (.int 3 0), (.ref 542), (.bool Bool.true), (.int 181 0), (.ref 543), .none, (.ref 544), (.ref 545), (.ref 546), (.int 911 0), (.int 481 0), (.str (.ofString "/claim/cut.py") 912)]) ::
    (nat_lit 548, fO (at_ 82) (.ofString "bound_extent") (.ofString "bound_extent") 3 [] .none .none .none (.str (.ofString "vectorcove.matbind") 899) none (.ref 547) .none 0 rfl) ::
    (nat_lit 554, cO #[(.str (.ofString "kept_places") 914), (.str (.ofString "kept_places") 915), (.str (.ofString "/claim/cut.py") 916), (.int 496 0), (.int 2 0), (.int 0 0), (.int 0 0), (.int 3 0), (.ref 549), (.bool Bool.true), (.int 181 0), (.ref 550), .none, (.ref 551), (.ref 552), (.ref 553), (.int 922 0), (.int 496 0), (.str (.ofString "/claim/cut.py") 923)]) ::
    (nat_lit 555, fO (at_ 83) (.ofString "kept_places") (.ofString "kept_places") 3 [] .none .none .none (.str (.ofString "vectorcove.matbind") 899) none (.ref 554) .none 0 rfl) ::
    (nat_lit 561, cO #[(.str (.ofString "note_recycling") 925), (.str (.ofString "note_recycling") 926), (.str (.ofString "/claim/cut.py") 927), (.int 503 0), (.int 5 0), (.int 0 0), (.int 0 0), (.int 3 0), (.ref 556), (.bool Bool.true), (.int 181 0), (.ref 557), .none, (.ref 558), (.ref 559), (.ref 560), (.int 936 0), (.int 503 0), (.str (.ofString "/claim/cut.py") 937)]) ::
    (nat_lit 562, fO (at_ 84) (.ofString "note_recycling") (.ofString "note_recycling") 3 [] .none .none .none (.str (.ofString "vectorcove.matbind") 899) none (.ref 561) .none 0 rfl) ::
    (nat_lit 566, cO #[(.str (.ofString "part_columns") 939), (.str (.ofString "part_columns") 940), (.str (.ofString "/claim/cut.py") 941), (.int 510 0), (.int 2 0), (.int 0 0), (.int 0 0), (.int 3 0), (.ref 563), (.bool Bool.true), (.int 181 0), (.ref 564), .none, .none, .none, (.ref 565), (.int 942 0), (.int 510 0), (.str (.ofString "/claim/cut.py") 943)]) ::
    (nat_lit 567, fO (at_ 85) (.ofString "part_columns") (.ofString "part_columns") 3 [] .none .none .none (.str (.ofString "vectorcove.matbind") 899) none (.ref 566) .none 0 rfl) ::
    (nat_lit 573, cO #[(.str (.ofString "part_heads") 945), (.str (.ofString "part_heads") 946), (.str (.ofString "/claim/cut.py") 947), (.int 515 0), (.int 2 0), (.int 0 0), (.int 0 0), (.int 3 0), (.ref 568), (.bool Bool.true), (.int 181 0), (.ref 569), .none, (.ref 570), (.ref 571), (.ref 572), (.int 951 0), (.int 515 0), (.str (.ofString "/claim/cut.py") 952)]) ::
    (nat_lit 574, fO (at_ 86) (.ofString "part_heads") (.ofString "part_heads") 3 [] .none .none .none (.str (.ofString "vectorcove.matbind") 899) none (.ref 573) .none 0 rfl) ::
    (nat_lit 580, cO #[(.str (.ofString "bound_row_names") 954), (.str (.ofString "bound_row_names") 955), (.str (.ofString "/claim/cut.py") 956), (.int 520 0), (.int 3 0), (.int 0 0), (.int 0 0), (.int 3 0), (.ref 575), (.bool Bool.true), (.int 181 0), (.ref 576), .none, (.ref 577), (.ref 578), (.ref 579), (.int 963 0), (.int 520 0), (.str (.ofString "/claim/cut.py") 964)]) ::
    (nat_lit 581, fO (at_ 87) (.ofString "bound_row_names") (.ofString "bound_row_names") 3 [] .none .none .none (.str (.ofString "vectorcove.matbind") 899) none (.ref 580) .none 0 rfl) ::
    (nat_lit 585, cO #[(.str (.ofString "bind_by") 966), (.str (.ofString "bind_by") 967), (.str (.ofString "/claim/cut.py") 968), (.int 527 0), (.int 4 0), (.int 0 0), (.int 0 0), (.int 3 0), (.ref 582), (.bool Bool.true), (.int 181 0), (.ref 583), .none, .none, .none, (.ref 584), (.int 969 0), (.int 527 0), (.str (.ofString "/claim/cut.py") 970)]) ::
    (nat_lit 586, fO (at_ 88) (.ofString "bind_by") (.ofString "bind_by") 3 [] .none .none .none (.str (.ofString "vectorcove.matbind") 899) none (.ref 585) .none 0 rfl) ::
    (nat_lit 592, cO #[(.str (.ofString "column_as") 972), (.str (.ofString "column_as") 973), (.str (.ofString "/claim/cut.py") 974), (.int 546 0), (.int 3 0), (.int 0 0), (.int 0 0), (.int 3 0), (.ref 587), (.bool Bool.true), (.int 181 0), (.ref 588), .none, (.ref 589), (.ref 590), (.ref 591), (.int 978 0), (.int 546 0), (.str (.ofString "/claim/cut.py") 979)]) ::
    (nat_lit 593, fO (at_ 89) (.ofString "column_as") (.ofString "column_as") 3 [] .none .none .none (.str (.ofString "vectorcove.matbind") 899) none (.ref 592) .none 0 rfl) ::
    (nat_lit 599, cO #[(.str (.ofString "bind_cols") 981), (.str (.ofString "bind_cols") 982), (.str (.ofString "/claim/cut.py") 983), (.int 550 0), (.int 3 0), (.int 0 0), (.int 0 0), (.int 3 0), (.ref 594), (.bool Bool.true), (.int 181 0), (.ref 595), .none, (.ref 596), (.ref 597), (.ref 598), (.int 987 0), (.int 550 0), (.str (.ofString "/claim/cut.py") 988)]) ::
    (nat_lit 600, fO (at_ 90) (.ofString "bind_cols") (.ofString "bind_cols") 3 [] .none .none .none (.str (.ofString "vectorcove.matbind") 899) none (.ref 599) .none 0 rfl) ::
    (nat_lit 606, cO #[(.str (.ofString "bind_rows") 990), (.str (.ofString "bind_rows") 991), (.str (.ofString "/claim/cut.py") 992), (.int 552 0), (.int 3 0), (.int 0 0), (.int 0 0), (.int 3 0), (.ref 601), (.bool Bool.true), (.int 181 0), (.ref 602), .none, (.ref 603), (.ref 604), (.ref 605), (.int 999 0), (.int 552 0), (.str (.ofString "/claim/cut.py") 1000)]) ::
    (nat_lit 607, fO (at_ 91) (.ofString "bind_rows") (.ofString "bind_rows") 3 [] .none .none .none (.str (.ofString "vectorcove.matbind") 899) none (.ref 606) .none 0 rfl) ::
    (nat_lit 613, cO #[(.str (.ofString "_law_next") 1004), (.str (.ofString "_law_next") 1005), (.str (.ofString "/claim/cut.py") 1006), (.int 559 0), (.int 2 0), (.int 0 0), (.int 0 0), (.int 3 0), (.ref 608), (.bool Bool.true), (.int 181 0), (.ref 609), .none, (.ref 610), (.ref 611), (.ref 612), (.int 1013 0), (.int 559 0), (.str (.ofString "/claim/cut.py") 1014)]) ::
    (nat_lit 614, fO (at_ 93) (.ofString "_law_next") (.ofString "_law_next") 3 [] .none .none .none (.str (.ofString "law_ov0081_01") 1002) none (.ref 613) .none 0 rfl) ::
    (nat_lit 620, cO #[(.str (.ofString "_law_entry") 1016), (.str (.ofString "_law_entry") 1017), (.str (.ofString "/claim/cut.py") 1018), (.int 572 0), (.int 2 0), (.int 0 0), (.int 0 0), (.int 3 0), (.ref 615), (.bool Bool.true), (.int 181 0), (.ref 616), .none, (.ref 617), (.ref 618), (.ref 619), (.int 1021 0), (.int 572 0), (.str (.ofString "/claim/cut.py") 1022)]) ::
    (nat_lit 621, fO (at_ 94) (.ofString "_law_entry") (.ofString "_law_entry") 3 [] .none .none .none (.str (.ofString "law_ov0081_01") 1002) none (.ref 620) .none 0 rfl) ::
    (nat_lit 625, cO #[(.str (.ofString "_law_block") 1024), (.str (.ofString "_law_block") 1025), (.str (.ofString "/claim/cut.py") 1026), (.int 580 0), (.int 4 0), (.int 0 0), (.int 0 0), (.int 3 0), (.ref 622), (.bool Bool.true), (.int 181 0), (.ref 623), .none, .none, .none, (.ref 624), (.int 1027 0), (.int 580 0), (.str (.ofString "/claim/cut.py") 1028)]) ::
    (nat_lit 626, fO (at_ 95) (.ofString "_law_block") (.ofString "_law_block") 3 [] .none .none .none (.str (.ofString "law_ov0081_01") 1002) none (.ref 625) .none 0 rfl) ::
    (nat_lit 632, cO #[(.str (.ofString "_law_names") 1030), (.str (.ofString "_law_names") 1031), (.str (.ofString "/claim/cut.py") 1032), (.int 592 0), (.int 2 0), (.int 0 0), (.int 0 0), (.int 3 0), (.ref 627), (.bool Bool.true), (.int 181 0), (.ref 628), .none, (.ref 629), (.ref 630), (.ref 631), (.int 1035 0), (.int 592 0), (.str (.ofString "/claim/cut.py") 1036)]) ::
    (nat_lit 633, fO (at_ 96) (.ofString "_law_names") (.ofString "_law_names") 3 [] .none .none .none (.str (.ofString "law_ov0081_01") 1002) none (.ref 632) .none 0 rfl) ::
    (nat_lit 639, cO #[(.str (.ofString "_law_widest") 1038), (.str (.ofString "_law_widest") 1039), (.str (.ofString "/claim/cut.py") 1040), (.int 596 0), (.int 1 0), (.int 0 0), (.int 0 0), (.int 3 0), (.ref 634), (.bool Bool.true), (.int 181 0), (.ref 635), .none, (.ref 636), (.ref 637), (.ref 638), (.int 1044 0), (.int 596 0), (.str (.ofString "/claim/cut.py") 1045)]) ::
    (nat_lit 640, fO (at_ 97) (.ofString "_law_widest") (.ofString "_law_widest") 3 [] .none .none .none (.str (.ofString "law_ov0081_01") 1002) none (.ref 639) .none 0 rfl) ::
    (nat_lit 646, cO #[(.str (.ofString "_law_as") 1047), (.str (.ofString "_law_as") 1048), (.str (.ofString "/claim/cut.py") 1049), (.int 602 0), (.int 3 0), (.int 0 0), (.int 0 0), (.int 3 0), (.ref 641), (.bool Bool.true), (.int 181 0), (.ref 642), .none, (.ref 643), (.ref 644), (.ref 645), (.int 1053 0), (.int 602 0), (.str (.ofString "/claim/cut.py") 1054)]) ::
    (nat_lit 647, fO (at_ 98) (.ofString "_law_as") (.ofString "_law_as") 3 [] .none .none .none (.str (.ofString "law_ov0081_01") 1002) none (.ref 646) .none 0 rfl) ::
    (nat_lit 653, cO #[(.str (.ofString "_law_whole") 1056), (.str (.ofString "_law_whole") 1057), (.str (.ofString "/claim/cut.py") 1058), (.int 606 0), (.int 1 0), (.int 0 0), (.int 0 0), (.int 3 0), (.ref 648), (.bool Bool.true), (.int 181 0), (.ref 649), .none, (.ref 650), (.ref 651), (.ref 652), (.int 1060 0), (.int 606 0), (.str (.ofString "/claim/cut.py") 1061)]) ::
    (nat_lit 654, fO (at_ 99) (.ofString "_law_whole") (.ofString "_law_whole") 3 [] .none .none .none (.str (.ofString "law_ov0081_01") 1002) none (.ref 653) .none 0 rfl) ::
    (nat_lit 660, cO #[(.str (.ofString "_law_due") 1063), (.str (.ofString "_law_due") 1064), (.str (.ofString "/claim/cut.py") 1065), (.int 608 0), (.int 2 0), (.int 0 0), (.int 0 0), (.int 3 0), (.ref 655), (.bool Bool.true), (.int 181 0), (.ref 656), .none, (.ref 657), (.ref 658), (.ref 659), (.int 1078 0), (.int 608 0), (.str (.ofString "/claim/cut.py") 1079)]) ::
    (nat_lit 661, fO (at_ 100) (.ofString "_law_due") (.ofString "_law_due") 3 [] .none .none .none (.str (.ofString "law_ov0081_01") 1002) none (.ref 660) .none 0 rfl) ::
    (nat_lit 665, cO #[(.str (.ofString "_law_vector_row") 1081), (.str (.ofString "_law_vector_row") 1082), (.str (.ofString "/claim/cut.py") 1083), (.int 629 0), (.int 3 0), (.int 0 0), (.int 0 0), (.int 3 0), (.ref 662), (.bool Bool.true), (.int 181 0), (.ref 663), .none, .none, .none, (.ref 664), (.int 1084 0), (.int 629 0), (.str (.ofString "/claim/cut.py") 1085)]) ::
    (nat_lit 666, fO (at_ 101) (.ofString "_law_vector_row") (.ofString "_law_vector_row") 3 [] .none .none .none (.str (.ofString "law_ov0081_01") 1002) none (.ref 665) .none 0 rfl) ::
    (nat_lit 672, cO #[(.str (.ofString "_law_refused") 1087), (.str (.ofString "_law_refused") 1088), (.str (.ofString "/claim/cut.py") 1089), (.int 646 0), (.int 2 0), (.int 0 0), (.int 0 0), (.int 3 0), (.ref 667), (.bool Bool.true), (.int 181 0), (.ref 668), .none, (.ref 669), (.ref 670), (.ref 671), (.int 1094 0), (.int 646 0), (.str (.ofString "/claim/cut.py") 1095)]) ::
    (nat_lit 673, fO (at_ 102) (.ofString "_law_refused") (.ofString "_law_refused") 3 [] .none .none .none (.str (.ofString "law_ov0081_01") 1002) none (.ref 672) .none 0 rfl) ::
    (nat_lit 677, cO #[(.str (.ofString "law") 1097), (.str (.ofString "law") 1098), (.str (.ofString "/claim/cut.py") 1099), (.int 653 0), (.int 1 0), (.int 0 0), (.int 0 0), (.int 3 0), (.ref 674), (.bool Bool.true), (.int 181 0), (.ref 675), .none, .none, .none, (.ref 676), (.int 1100 0), (.int 653 0), (.str (.ofString "/claim/cut.py") 1101)]) ::
    (nat_lit 678, fO (at_ 103) (.ofString "law") (.ofString "law") 3 [] .none .none .none (.str (.ofString "law_ov0081_01") 1002) none (.ref 677) .none 0 rfl) :: [] : List (Nat × Obj))) => l) ?l ?h
  case h => delta fO cO; exact rfl

abbrev keys39 : List Nat := [nat_lit 2, nat_lit 3, nat_lit 30, nat_lit 31, nat_lit 32, nat_lit 47, nat_lit 48, nat_lit 50, nat_lit 51, nat_lit 66, nat_lit 67, nat_lit 69, nat_lit 70, nat_lit 71, nat_lit 72, nat_lit 82, nat_lit 88, nat_lit 89, nat_lit 98, nat_lit 99, nat_lit 100, nat_lit 101, nat_lit 109, nat_lit 110, nat_lit 116, nat_lit 117, nat_lit 144, nat_lit 145, nat_lit 149, nat_lit 150, nat_lit 156, nat_lit 157, nat_lit 163, nat_lit 164, nat_lit 165, nat_lit 185, nat_lit 186, nat_lit 359, nat_lit 360, nat_lit 366, nat_lit 367, nat_lit 408, nat_lit 409, nat_lit 415, nat_lit 416, nat_lit 429, nat_lit 430, nat_lit 436, nat_lit 437, nat_lit 462, nat_lit 463, nat_lit 467, nat_lit 468, nat_lit 474, nat_lit 475, nat_lit 481, nat_lit 482, nat_lit 488, nat_lit 489, nat_lit 495, nat_lit 496, nat_lit 502, nat_lit 503, nat_lit 507, nat_lit 508, nat_lit 514, nat_lit 515, nat_lit 521, nat_lit 522, nat_lit 528, nat_lit 529, nat_lit 535, nat_lit 536, nat_lit 540, nat_lit 541, nat_lit 547, nat_lit 548, nat_lit 554, nat_lit 555, nat_lit 561, nat_lit 562, nat_lit 566, nat_lit 567, nat_lit 573, nat_lit 574, nat_lit 580, nat_lit 581, nat_lit 585, nat_lit 586, nat_lit 592, nat_lit 593, nat_lit 599, nat_lit 600, nat_lit 606, nat_lit 607, nat_lit 613, nat_lit 614, nat_lit 620, nat_lit 621, nat_lit 625, nat_lit 626, nat_lit 632, nat_lit 633, nat_lit 639, nat_lit 640, nat_lit 646, nat_lit 647, nat_lit 653, nat_lit 654, nat_lit 660, nat_lit 661, nat_lit 665, nat_lit 666, nat_lit 672, nat_lit 673, nat_lit 677, nat_lit 678]
theorem keys39_ok (P : Params) : keys39 = (hd.heap_39 P).map (·.1) := by kernel_rfl
end
section
namespace Hp
noncomputable def fS (st : Stmt) (name qual : Str) (g : Nat) (cl : List (Str × Nat)) (df kd dc pm : Value) (an : Option Nat) (co ct : Value) (bi : Nat) : Obj := match st with
  | .FunctionDef _ ar bo _ _ _ sc _ _ _ => .mk (.type "function") none (.func (.mk name qual ar (.stmts bo) sc g cl df kd dc pm an co ct bi)) #[]
  | _ => .mk .none none .plain #[]
noncomputable def gS (st : Stmt) (name qual : Str) (g : Nat) (cl : List (Str × Nat)) (df kd dc pm : Value) (an : Option Nat) (co ct : Value) (bi : Nat) : Obj := match st with
  | .FunctionDef _ ar bo _ _ _ sc _ _ _ => .mk .none none (.func (.mk name qual ar (.stmts bo) sc g cl df kd dc pm an co ct bi)) #[]
  | _ => .mk .none none .plain #[]
noncomputable def tO (vs : Array Value) (n : Nat) : Obj := .mk (.type "tuple") none (.seq vs n) #[]
noncomputable def gls (P : Params) : List DictEntry :=
  (PySem.DictEntry.mk (PySem.PyData.keyHash P (.ofString "__doc__")) (.str (.ofString "__doc__") 166) .none) ::
  (PySem.DictEntry.mk (PySem.PyData.keyHash P (.ofString "__package__")) (.str (.ofString "__package__") 167) .none) ::
  (PySem.DictEntry.mk (PySem.PyData.keyHash P (.ofString "__loader__")) (.str (.ofString "__loader__") 168) (.builtin "__main__.__loader__#opaque")) ::
  (PySem.DictEntry.mk (PySem.PyData.keyHash P (.ofString "__spec__")) (.str (.ofString "__spec__") 169) .none) ::
  (PySem.DictEntry.mk (PySem.PyData.keyHash P (.ofString "__annotations__")) (.str (.ofString "__annotations__") 170) (.ref 6)) ::
  (PySem.DictEntry.mk (PySem.PyData.keyHash P (.ofString "__builtins__")) (.str (.ofString "__builtins__") 171) (.ref 4)) ::
  (PySem.DictEntry.mk (PySem.PyData.keyHash P (.ofString "__file__")) (.str (.ofString "__file__") 173) (.str (.ofString "/claim/cut.py") 172)) ::
  (PySem.DictEntry.mk (PySem.PyData.keyHash P (.ofString "__cached__")) (.str (.ofString "__cached__") 174) .none) ::
  (PySem.DictEntry.mk (PySem.PyData.keyHash P (.ofString "_wall")) (.str (.ofString "_wall") 193) (.ref 21)) ::
  (PySem.DictEntry.mk (PySem.PyData.keyHash P (.ofString "CoveError")) (.str (.ofString "CoveError") 215) (.ref 31)) ::
  (PySem.DictEntry.mk (PySem.PyData.keyHash P (.ofString "Refusal")) (.str (.ofString "Refusal") 240) (.ref 51)) ::
  (PySem.DictEntry.mk (PySem.PyData.keyHash P (.ofString "Null")) (.str (.ofString "Null") 271) (.ref 70)) ::
  (PySem.DictEntry.mk (PySem.PyData.keyHash P (.ofString "Vector")) (.str (.ofString "Vector") 313) (.ref 99)) ::
  (PySem.DictEntry.mk (PySem.PyData.keyHash P (.ofString "integer")) (.str (.ofString "integer") 320) (.ref 110)) ::
  (PySem.DictEntry.mk (PySem.PyData.keyHash P (.ofString "character")) (.str (.ofString "character") 327) (.ref 117)) ::
  (PySem.DictEntry.mk (PySem.PyData.keyHash P (.ofString "length")) (.str (.ofString "length") 335) (.ref 124)) ::
  (PySem.DictEntry.mk (PySem.PyData.keyHash P (.ofString "is_atomic")) (.str (.ofString "is_atomic") 342) (.ref 131)) ::
  (PySem.DictEntry.mk (PySem.PyData.keyHash P (.ofString "share")) (.str (.ofString "share") 349) (.ref 138)) ::
  (PySem.DictEntry.mk (PySem.PyData.keyHash P (.ofString "get_attr")) (.str (.ofString "get_attr") 359) (.ref 145)) ::
  (PySem.DictEntry.mk (PySem.PyData.keyHash P (.ofString "names_of")) (.str (.ofString "names_of") 365) (.ref 150)) ::
  (PySem.DictEntry.mk (PySem.PyData.keyHash P (.ofString "dim_of")) (.str (.ofString "dim_of") 373) (.ref 157)) ::
  (PySem.DictEntry.mk (PySem.PyData.keyHash P (.ofString "dimnames_of")) (.str (.ofString "dimnames_of") 379) (.ref 162)) ::
  (PySem.DictEntry.mk (PySem.PyData.keyHash P (.ofString "NAN")) (.str (.ofString "NAN") 384) (.ref 163)) ::
  (PySem.DictEntry.mk (PySem.PyData.keyHash P (.ofString "INF")) (.str (.ofString "INF") 387) (.ref 164)) ::
  (PySem.DictEntry.mk (PySem.PyData.keyHash P (.ofString "ZERO")) (.str (.ofString "ZERO") 390) (.ref 165)) ::
  (PySem.DictEntry.mk (PySem.PyData.keyHash P (.ofString "gcd")) (.str (.ofString "gcd") 398) (.ref 172)) ::
  (PySem.DictEntry.mk (PySem.PyData.keyHash P (.ofString "make")) (.str (.ofString "make") 407) (.ref 179)) ::
  (PySem.DictEntry.mk (PySem.PyData.keyHash P (.ofString "from_int")) (.str (.ofString "from_int") 414) (.ref 186)) ::
  (PySem.DictEntry.mk (PySem.PyData.keyHash P (.ofString "is_na")) (.str (.ofString "is_na") 421) (.ref 193)) ::
  (PySem.DictEntry.mk (PySem.PyData.keyHash P (.ofString "is_finite")) (.str (.ofString "is_finite") 428) (.ref 200)) ::
  (PySem.DictEntry.mk (PySem.PyData.keyHash P (.ofString "neg")) (.str (.ofString "neg") 435) (.ref 207)) ::
  (PySem.DictEntry.mk (PySem.PyData.keyHash P (.ofString "to_whole")) (.str (.ofString "to_whole") 443) (.ref 214)) ::
  (PySem.DictEntry.mk (PySem.PyData.keyHash P (.ofString "nearest_whole")) (.str (.ofString "nearest_whole") 453) (.ref 221)) ::
  (PySem.DictEntry.mk (PySem.PyData.keyHash P (.ofString "exponent")) (.str (.ofString "exponent") 463) (.ref 228)) ::
  (PySem.DictEntry.mk (PySem.PyData.keyHash P (.ofString "MOST_EXPONENT")) (.str (.ofString "MOST_EXPONENT") 467) (.int 4096 466)) ::
  (PySem.DictEntry.mk (PySem.PyData.keyHash P (.ofString "whole_text")) (.str (.ofString "whole_text") 477) (.ref 235)) ::
  (PySem.DictEntry.mk (PySem.PyData.keyHash P (.ofString "special_text")) (.str (.ofString "special_text") 484) (.ref 242)) ::
  (PySem.DictEntry.mk (PySem.PyData.keyHash P (.ofString "scaled")) (.str (.ofString "scaled") 494) (.ref 249)) ::
  (PySem.DictEntry.mk (PySem.PyData.keyHash P (.ofString "significant")) (.str (.ofString "significant") 504) (.ref 256)) ::
  (PySem.DictEntry.mk (PySem.PyData.keyHash P (.ofString "without_tail")) (.str (.ofString "without_tail") 512) (.ref 263)) ::
  (PySem.DictEntry.mk (PySem.PyData.keyHash P (.ofString "scientific_text")) (.str (.ofString "scientific_text") 524) (.ref 270)) ::
  (PySem.DictEntry.mk (PySem.PyData.keyHash P (.ofString "fixed_text")) (.str (.ofString "fixed_text") 534) (.ref 277)) ::
  (PySem.DictEntry.mk (PySem.PyData.keyHash P (.ofString "measures")) (.str (.ofString "measures") 547) (.ref 284)) ::
  (PySem.DictEntry.mk (PySem.PyData.keyHash P (.ofString "chosen_form")) (.str (.ofString "chosen_form") 564) (.ref 291)) ::
  (PySem.DictEntry.mk (PySem.PyData.keyHash P (.ofString "formed")) (.str (.ofString "formed") 573) (.ref 298)) ::
  (PySem.DictEntry.mk (PySem.PyData.keyHash P (.ofString "common_texts")) (.str (.ofString "common_texts") 579) (.ref 303)) ::
  (PySem.DictEntry.mk (PySem.PyData.keyHash P (.ofString "number_text")) (.str (.ofString "number_text") 588) (.ref 311)) ::
  (PySem.DictEntry.mk (PySem.PyData.keyHash P (.ofString "digits_value")) (.str (.ofString "digits_value") 598) (.ref 318)) ::
  (PySem.DictEntry.mk (PySem.PyData.keyHash P (.ofString "digit_run")) (.str (.ofString "digit_run") 607) (.ref 325)) ::
  (PySem.DictEntry.mk (PySem.PyData.keyHash P (.ofString "exponent_value")) (.str (.ofString "exponent_value") 616) (.ref 332)) ::
  (PySem.DictEntry.mk (PySem.PyData.keyHash P (.ofString "powered")) (.str (.ofString "powered") 625) (.ref 339)) ::
  (PySem.DictEntry.mk (PySem.PyData.keyHash P (.ofString "unsigned_number")) (.str (.ofString "unsigned_number") 644) (.ref 346)) ::
  (PySem.DictEntry.mk (PySem.PyData.keyHash P (.ofString "parse_number")) (.str (.ofString "parse_number") 656) (.ref 353)) ::
  (PySem.DictEntry.mk (PySem.PyData.keyHash P (.ofString "MOST_INTEGER")) (.str (.ofString "MOST_INTEGER") 660) (.int 2147483647 659)) ::
  (PySem.DictEntry.mk (PySem.PyData.keyHash P (.ofString "kind_order")) (.str (.ofString "kind_order") 668) (.ref 360)) ::
  (PySem.DictEntry.mk (PySem.PyData.keyHash P (.ofString "common_kind")) (.str (.ofString "common_kind") 678) (.ref 367)) ::
  (PySem.DictEntry.mk (PySem.PyData.keyHash P (.ofString "note")) (.str (.ofString "note") 686) (.ref 374)) ::
  (PySem.DictEntry.mk (PySem.PyData.keyHash P (.ofString "as_logical_text")) (.str (.ofString "as_logical_text") 693) (.ref 381)) ::
  (PySem.DictEntry.mk (PySem.PyData.keyHash P (.ofString "double_to_integer")) (.str (.ofString "double_to_integer") 702) (.ref 388)) ::
  (PySem.DictEntry.mk (PySem.PyData.keyHash P (.ofString "text_to_double")) (.str (.ofString "text_to_double") 712) (.ref 395)) ::
  (PySem.DictEntry.mk (PySem.PyData.keyHash P (.ofString "to_logical")) (.str (.ofString "to_logical") 720) (.ref 402)) ::
  (PySem.DictEntry.mk (PySem.PyData.keyHash P (.ofString "to_integer")) (.str (.ofString "to_integer") 729) (.ref 409)) ::
  (PySem.DictEntry.mk (PySem.PyData.keyHash P (.ofString "to_double")) (.str (.ofString "to_double") 738) (.ref 416)) ::
  (PySem.DictEntry.mk (PySem.PyData.keyHash P (.ofString "to_text")) (.str (.ofString "to_text") 746) (.ref 423)) ::
  (PySem.DictEntry.mk (PySem.PyData.keyHash P (.ofString "item_as")) (.str (.ofString "item_as") 756) (.ref 430)) ::
  (PySem.DictEntry.mk (PySem.PyData.keyHash P (.ofString "is_atomic_kind")) (.str (.ofString "is_atomic_kind") 763) (.ref 437)) ::
  (PySem.DictEntry.mk (PySem.PyData.keyHash P (.ofString "list_item_as")) (.str (.ofString "list_item_as") 773) (.ref 444)) ::
  (PySem.DictEntry.mk (PySem.PyData.keyHash P (.ofString "refuse_type")) (.str (.ofString "refuse_type") 781) (.ref 451)) ::
  (PySem.DictEntry.mk (PySem.PyData.keyHash P (.ofString "as_vector_kind")) (.str (.ofString "as_vector_kind") 787) (.ref 456)) ::
  (PySem.DictEntry.mk (PySem.PyData.keyHash P (.ofString "with_names")) (.str (.ofString "with_names") 795) (.ref 463)) ::
  (PySem.DictEntry.mk (PySem.PyData.keyHash P (.ofString "as_kind")) (.str (.ofString "as_kind") 801) (.ref 468)) ::
  (PySem.DictEntry.mk (PySem.PyData.keyHash P (.ofString "dims")) (.str (.ofString "dims") 810) (.ref 475)) ::
  (PySem.DictEntry.mk (PySem.PyData.keyHash P (.ofString "is_matrix")) (.str (.ofString "is_matrix") 818) (.ref 482)) ::
  (PySem.DictEntry.mk (PySem.PyData.keyHash P (.ofString "shape_of")) (.str (.ofString "shape_of") 825) (.ref 489)) ::
  (PySem.DictEntry.mk (PySem.PyData.keyHash P (.ofString "axis_names")) (.str (.ofString "axis_names") 834) (.ref 496)) ::
  (PySem.DictEntry.mk (PySem.PyData.keyHash P (.ofString "plain_names")) (.str (.ofString "plain_names") 841) (.ref 503)) ::
  (PySem.DictEntry.mk (PySem.PyData.keyHash P (.ofString "dimnames_list")) (.str (.ofString "dimnames_list") 847) (.ref 508)) ::
  (PySem.DictEntry.mk (PySem.PyData.keyHash P (.ofString "new_array")) (.str (.ofString "new_array") 859) (.ref 515)) ::
  (PySem.DictEntry.mk (PySem.PyData.keyHash P (.ofString "new_matrix")) (.str (.ofString "new_matrix") 870) (.ref 522)) ::
  (PySem.DictEntry.mk (PySem.PyData.keyHash P (.ofString "column_items")) (.str (.ofString "column_items") 879) (.ref 529)) ::
  (PySem.DictEntry.mk (PySem.PyData.keyHash P (.ofString "transpose")) (.str (.ofString "transpose") 892) (.ref 536)) ::
  (PySem.DictEntry.mk (PySem.PyData.keyHash P (.ofString "joined_kind")) (.str (.ofString "joined_kind") 898) (.ref 541)) ::
  (PySem.DictEntry.mk (PySem.PyData.keyHash P (.ofString "bound_extent")) (.str (.ofString "bound_extent") 913) (.ref 548)) ::
  (PySem.DictEntry.mk (PySem.PyData.keyHash P (.ofString "kept_places")) (.str (.ofString "kept_places") 924) (.ref 555)) ::
  (PySem.DictEntry.mk (PySem.PyData.keyHash P (.ofString "note_recycling")) (.str (.ofString "note_recycling") 938) (.ref 562)) ::
  (PySem.DictEntry.mk (PySem.PyData.keyHash P (.ofString "part_columns")) (.str (.ofString "part_columns") 944) (.ref 567)) ::
  (PySem.DictEntry.mk (PySem.PyData.keyHash P (.ofString "part_heads")) (.str (.ofString "part_heads") 953) (.ref 574)) ::
  (PySem.DictEntry.mk (PySem.PyData.keyHash P (.ofString "bound_row_names")) (.str (.ofString "bound_row_names") 965) (.ref 581)) ::
  (PySem.DictEntry.mk (PySem.PyData.keyHash P (.ofString "bind_by")) (.str (.ofString "bind_by") 971) (.ref 586)) ::
  (PySem.DictEntry.mk (PySem.PyData.keyHash P (.ofString "column_as")) (.str (.ofString "column_as") 980) (.ref 593)) ::
  (PySem.DictEntry.mk (PySem.PyData.keyHash P (.ofString "bind_cols")) (.str (.ofString "bind_cols") 989) (.ref 600)) ::
  (PySem.DictEntry.mk (PySem.PyData.keyHash P (.ofString "bind_rows")) (.str (.ofString "bind_rows") 1001) (.ref 607)) ::
  (PySem.DictEntry.mk (PySem.PyData.keyHash P (.ofString "_law_next")) (.str (.ofString "_law_next") 1015) (.ref 614)) ::
  (PySem.DictEntry.mk (PySem.PyData.keyHash P (.ofString "_law_entry")) (.str (.ofString "_law_entry") 1023) (.ref 621)) ::
  (PySem.DictEntry.mk (PySem.PyData.keyHash P (.ofString "_law_block")) (.str (.ofString "_law_block") 1029) (.ref 626)) ::
  (PySem.DictEntry.mk (PySem.PyData.keyHash P (.ofString "_law_names")) (.str (.ofString "_law_names") 1037) (.ref 633)) ::
  (PySem.DictEntry.mk (PySem.PyData.keyHash P (.ofString "_law_widest")) (.str (.ofString "_law_widest") 1046) (.ref 640)) ::
  (PySem.DictEntry.mk (PySem.PyData.keyHash P (.ofString "_law_as")) (.str (.ofString "_law_as") 1055) (.ref 647)) ::
  (PySem.DictEntry.mk (PySem.PyData.keyHash P (.ofString "_law_whole")) (.str (.ofString "_law_whole") 1062) (.ref 654)) ::
  (PySem.DictEntry.mk (PySem.PyData.keyHash P (.ofString "_law_due")) (.str (.ofString "_law_due") 1080) (.ref 661)) ::
  (PySem.DictEntry.mk (PySem.PyData.keyHash P (.ofString "_law_vector_row")) (.str (.ofString "_law_vector_row") 1086) (.ref 666)) ::
  (PySem.DictEntry.mk (PySem.PyData.keyHash P (.ofString "_law_refused")) (.str (.ofString "_law_refused") 1096) (.ref 673)) ::
  (PySem.DictEntry.mk (PySem.PyData.keyHash P (.ofString "law")) (.str (.ofString "law") 1102) (.ref 678)) :: []
noncomputable def gd (P : Params) (m : String) (t k n : Nat) : Obj := PySem.Obj.mk (.type "dict") none (PySem.Data.dict (Array.mk (PySem.DictEntry.mk (PySem.PyData.keyHash P (.ofString "__name__")) (.str (.ofString "__name__") 165) (.str (.ofString m) t) :: (gls P).take k)) n) #[]
noncomputable def cls : List Value := (.int 1 0) :: (.int 0 0) :: (.ref 20) :: (.int 5 0) :: (.int 0 0) :: (.ref 27) :: (.int 7 0) :: (.int 0 0) :: (.ref 40) :: (.int 12 0) :: (.int 0 0) :: (.ref 59) :: (.int 17 0) :: (.int 0 0) :: (.ref 80) :: (.int 28 0) :: (.int 0 0) :: (.ref 109) :: (.int 30 0) :: (.int 0 0) :: (.ref 116) :: (.int 32 0) :: (.int 0 0) :: (.ref 123) :: (.int 43 0) :: (.int 0 0) :: (.ref 130) :: (.int 45 0) :: (.int 0 0) :: (.ref 137) :: (.int 50 0) :: (.int 0 0) :: (.ref 144) :: (.int 54 0) :: (.int 0 0) :: (.ref 149) :: (.int 70 0) :: (.int 0 0) :: (.ref 156) :: (.int 75 0) :: (.int 0 0) :: (.ref 161) :: (.int 84 0) :: (.int 0 0) :: (.ref 171) :: (.int 88 0) :: (.int 0 0) :: (.ref 178) :: (.int 98 0) :: (.int 0 0) :: (.ref 185) :: (.int 102 0) :: (.int 0 0) :: (.ref 192) :: (.int 104 0) :: (.int 0 0) :: (.ref 199) :: (.int 106 0) :: (.int 0 0) :: (.ref 206) :: (.int 110 0) :: (.int 0 0) :: (.ref 213) :: (.int 115 0) :: (.int 0 0) :: (.ref 220) :: (.int 121 0) :: (.int 0 0) :: (.ref 227) :: (.int 134 0) :: (.int 0 0) :: (.ref 234) :: (.int 145 0) :: (.int 0 0) :: (.ref 241) :: (.int 153 0) :: (.int 0 0) :: (.ref 248) :: (.int 158 0) :: (.int 0 0) :: (.ref 255) :: (.int 167 0) :: (.int 0 0) :: (.ref 262) :: (.int 172 0) :: (.int 0 0) :: (.ref 269) :: (.int 179 0) :: (.int 0 0) :: (.ref 276) :: (.int 187 0) :: (.int 0 0) :: (.ref 283) :: (.int 194 0) :: (.int 0 0) :: (.ref 290) :: (.int 214 0) :: (.int 0 0) :: (.ref 297) :: (.int 221 0) :: (.int 0 0) :: (.ref 302) :: (.int 225 0) :: (.int 0 0) :: (.ref 310) :: (.int 227 0) :: (.int 0 0) :: (.ref 317) :: (.int 232 0) :: (.int 0 0) :: (.ref 324) :: (.int 236 0) :: (.int 0 0) :: (.ref 331) :: (.int 246 0) :: (.int 0 0) :: (.ref 338) :: (.int 256 0) :: (.int 0 0) :: (.ref 345) :: (.int 288 0) :: (.int 0 0) :: (.ref 352) :: (.int 307 0) :: (.int 0 0) :: (.ref 359) :: (.int 312 0) :: (.int 0 0) :: (.ref 366) :: (.int 318 0) :: (.int 0 0) :: (.ref 373) :: (.int 321 0) :: (.int 0 0) :: (.ref 380) :: (.int 327 0) :: (.int 0 0) :: (.ref 387) :: (.int 335 0) :: (.int 0 0) :: (.ref 394) :: (.int 341 0) :: (.int 0 0) :: (.ref 401) :: (.int 351 0) :: (.int 0 0) :: (.ref 408) :: (.int 359 0) :: (.int 0 0) :: (.ref 415) :: (.int 365 0) :: (.int 0 0) :: (.ref 422) :: (.int 373 0) :: (.int 0 0) :: (.ref 429) :: (.int 387 0) :: (.int 0 0) :: (.ref 436) :: (.int 389 0) :: (.int 0 0) :: (.ref 443) :: (.int 395 0) :: (.int 0 0) :: (.ref 450) :: (.int 397 0) :: (.int 0 0) :: (.ref 455) :: (.int 411 0) :: (.int 0 0) :: (.ref 462) :: (.int 415 0) :: (.int 0 0) :: (.ref 467) :: (.int 423 0) :: (.int 0 0) :: (.ref 474) :: (.int 427 0) :: (.int 0 0) :: (.ref 481) :: (.int 430 0) :: (.int 0 0) :: (.ref 488) :: (.int 434 0) :: (.int 0 0) :: (.ref 495) :: (.int 441 0) :: (.int 0 0) :: (.ref 502) :: (.int 445 0) :: (.int 0 0) :: (.ref 507) :: (.int 452 0) :: (.int 0 0) :: (.ref 514) :: (.int 459 0) :: (.int 0 0) :: (.ref 521) :: (.int 461 0) :: (.int 0 0) :: (.ref 528) :: (.int 464 0) :: (.int 0 0) :: (.ref 535) :: (.int 478 0) :: (.int 0 0) :: (.ref 540) :: (.int 481 0) :: (.int 0 0) :: (.ref 547) :: (.int 496 0) :: (.int 0 0) :: (.ref 554) :: (.int 503 0) :: (.int 0 0) :: (.ref 561) :: (.int 510 0) :: (.int 0 0) :: (.ref 566) :: (.int 515 0) :: (.int 0 0) :: (.ref 573) :: (.int 520 0) :: (.int 0 0) :: (.ref 580) :: (.int 527 0) :: (.int 0 0) :: (.ref 585) :: (.int 546 0) :: (.int 0 0) :: (.ref 592) :: (.int 550 0) :: (.int 0 0) :: (.ref 599) :: (.int 552 0) :: (.int 0 0) :: (.ref 606) :: (.int 559 0) :: (.int 0 0) :: (.ref 613) :: (.int 572 0) :: (.int 0 0) :: (.ref 620) :: (.int 580 0) :: (.int 0 0) :: (.ref 625) :: (.int 592 0) :: (.int 0 0) :: (.ref 632) :: (.int 596 0) :: (.int 0 0) :: (.ref 639) :: (.int 602 0) :: (.int 0 0) :: (.ref 646) :: (.int 606 0) :: (.int 0 0) :: (.ref 653) :: (.int 608 0) :: (.int 0 0) :: (.ref 660) :: (.int 629 0) :: (.int 0 0) :: (.ref 665) :: (.int 646 0) :: (.int 0 0) :: (.ref 672) :: (.int 653 0) :: (.int 0 0) :: (.ref 677) :: []
noncomputable def fd (k : Nat) : Obj := PySem.Obj.mk .none none (PySem.Data.fields (Array.mk (cls.take k))) #[]
def lf : Life := PySem.Life.mk [] [] [] 0 [] [] Bool.false #[] [] 0 Bool.false Bool.false Bool.false 0 [2000, 10, 10] Bool.false 0 Bool.true [] [] 0 Bool.false
noncomputable def objs (P : Params) : List Obj :=
  (boot_o_0 P) ::
  (boot_o_1 P) ::
  (PySem.Obj.mk .none none (PySem.Data.dict #[(PySem.DictEntry.mk (PySem.PyData.keyHash P (.ofString "type.__subclasses__.Exception.0")) (.str (.ofString "type.__subclasses__.Exception.0") 212) (.int 31 0)), (PySem.DictEntry.mk (PySem.PyData.keyHash P (.ofString "type.__subclasses__.Exception.n")) (.str (.ofString "type.__subclasses__.Exception.n") 213) (.int 1 0))] 2) #[]) ::
  (gd P "law_ov0081_01" 1002 103 104) ::
  (boot_o_4 P) ::
  (boot_o_5 P) ::
  (boot_o_6 P) ::
  (boot_o_7 P) ::
  (boot_o_8 P) ::
  (boot_o_9 P) ::
  (boot_o_10 P) ::
  (tO #[] 0) ::
  (fd 270) ::
  (cO #[(.str (.ofString "<module>") 182), (.str (.ofString "<module>") 183), (.str (.ofString "/claim/cut.py") 184), (.int 1 0), (.int 0 0), (.int 0 0), (.int 0 0), (.int 0 0), (.ref 11), (.bool Bool.false), (.int 181 0), (.ref 12), .none, .none, .none, .none, (.int 185 0), (.int 1 0), (.str (.ofString "/claim/cut.py") 186)]) ::
  (PySem.Obj.mk (.type "frame") none PySem.Data.plain #[(some (.ref 13)), (some (.ref 3)), (some (.ref 3)), none, (some (.str (.ofString "__main__") 164)), none, (some (.ref 0))]) ::
  (tO #[] 0) ::
  (PySem.Obj.mk .none none (PySem.Data.fields #[]) #[]) ::
  (tO #[(.str (.ofString "k") 190)] 0) ::
  (tO #[] 0) ::
  (gS (at_ 0) (.ofString "_wall") (.ofString "_wall") 0 [] .none .none .none .none none .none .none 0) ::
  (cO #[(.str (.ofString "_wall") 187), (.str (.ofString "_wall") 188), (.str (.ofString "/claim/cut.py") 189), (.int 1 0), (.int 1 0), (.int 0 0), (.int 0 0), (.int 3 0), (.ref 15), (.bool Bool.true), (.int 181 0), (.ref 16), .none, (.ref 17), (.ref 18), (.ref 19), (.int 191 0), (.int 1 0), (.str (.ofString "/claim/cut.py") 192)]) ::
  (fS (at_ 0) (.ofString "_wall") (.ofString "_wall") 3 [] .none .none .none (.str (.ofString "__main__") 164) none (.ref 20) .none 0) ::
  (tO #[(.type "Exception")] 0) ::
  (PySem.Obj.mk (.type "builtin_function_or_method") none (PySem.Data.fields #[(.builtin "type.__prepare__"), (.type "type")]) #[]) ::
  (PySem.Obj.mk (.type "dict") none (PySem.Data.dict #[(PySem.DictEntry.mk (PySem.PyData.keyHash P (.ofString "__module__")) (.str (.ofString "__module__") 203) (.str (.ofString "vectorcove.errors") 194)), (PySem.DictEntry.mk (PySem.PyData.keyHash P (.ofString "__qualname__")) (.str (.ofString "__qualname__") 205) (.str (.ofString "CoveError") 204)), (PySem.DictEntry.mk (PySem.PyData.keyHash P (.ofString "__firstlineno__")) (.str (.ofString "__firstlineno__") 207) (.int 5 206)), (PySem.DictEntry.mk (PySem.PyData.keyHash P (.ofString "__static_attributes__")) (.str (.ofString "__static_attributes__") 208) (.ref 29))] 4) #[]) ::
  (tO #[] 0) ::
  (PySem.Obj.mk .none none (PySem.Data.fields #[]) #[]) ::
  (cO #[(.str (.ofString "CoveError") 198), (.str (.ofString "CoveError") 199), (.str (.ofString "/claim/cut.py") 200), (.int 5 0), (.int 0 0), (.int 0 0), (.int 0 0), (.int 0 0), (.ref 25), (.bool Bool.false), (.int 181 0), (.ref 26), .none, .none, .none, .none, (.int 201 0), (.int 5 0), (.str (.ofString "/claim/cut.py") 202)]) ::
  (PySem.Obj.mk (.type "frame") none PySem.Data.plain #[(some (.ref 27)), (some (.ref 3)), (some (.ref 24)), none, (some (.str (.ofString "vectorcove.errors") 194)), none, (some (.ref 0))]) ::
  (tO #[] 0) ::
  (PySem.Obj.mk (.type "dict") none (PySem.Data.dict #[(PySem.DictEntry.mk (PySem.PyData.keyHash P (.ofString "__module__")) (.str (.ofString "__module__") 203) (.str (.ofString "vectorcove.errors") 194)), (PySem.DictEntry.mk (PySem.PyData.keyHash P (.ofString "__firstlineno__")) (.str (.ofString "__firstlineno__") 207) (.int 5 206)), (PySem.DictEntry.mk (PySem.PyData.keyHash P (.ofString "__static_attributes__")) (.str (.ofString "__static_attributes__") 208) (.ref 29)), (PySem.DictEntry.mk (PySem.PyData.keyHash P (.ofString "__weakref__")) (.str (.ofString "__weakref__") 210) (.ref 32)), (PySem.DictEntry.mk (PySem.PyData.keyHash P (.ofString "__doc__")) (.str (.ofString "__doc__") 211) .none)] 3) #[]) ::
  (PySem.Obj.mk (.type "type") none (PySem.Data.cls (PySem.ClassData.mk (.ofString "CoveError") [(.type "Exception")] [(.ref 31), (.type "Exception"), (.type "BaseException"), (.type "object")] 30 (.ofString "CoveError") Bool.true [] [(.ref 51)] Bool.false none Bool.false)) #[(some (.ref 22)), none, (some (.str (.ofString "CoveError") 196)), (some (.str (.ofString "CoveError") 204)), (some (.builtin "Exception.__new__")), (some (.bool Bool.true))]) ::
  (PySem.Obj.mk (.type "getset_descriptor") none (PySem.Data.fields #[(.str (.ofString "__weakref__") 209), (.ref 31), (.builtin "ExceptionGroup.__weakref__"), .none]) #[]) ::
  (PySem.Obj.mk (.type "super") none (PySem.Data.fields #[(.ref 31), (.ref 31), (.ref 31)]) #[]) ::
  (PySem.Obj.mk (.type "builtin_function_or_method") none (PySem.Data.fields #[(.builtin "object.__init_subclass__"), (.ref 31)]) #[]) ::
  (tO #[(.ref 31)] 0) ::
  (PySem.Obj.mk (.type "builtin_function_or_method") none (PySem.Data.fields #[(.builtin "type.__prepare__"), (.type "type")]) #[]) ::
  (PySem.Obj.mk (.type "dict") none (PySem.Data.dict #[(PySem.DictEntry.mk (PySem.PyData.keyHash P (.ofString "__module__")) (.str (.ofString "__module__") 223) (.str (.ofString "vectorcove.errors") 194)), (PySem.DictEntry.mk (PySem.PyData.keyHash P (.ofString "__qualname__")) (.str (.ofString "__qualname__") 225) (.str (.ofString "Refusal") 224)), (PySem.DictEntry.mk (PySem.PyData.keyHash P (.ofString "__firstlineno__")) (.str (.ofString "__firstlineno__") 227) (.int 7 226)), (PySem.DictEntry.mk (PySem.PyData.keyHash P (.ofString "__init__")) (.str (.ofString "__init__") 235) (.ref 48)), (PySem.DictEntry.mk (PySem.PyData.keyHash P (.ofString "__static_attributes__")) (.str (.ofString "__static_attributes__") 237) (.ref 49))] 5) #[]) ::
  (tO #[] 0) ::
  (PySem.Obj.mk .none none (PySem.Data.fields #[(.int 9 0), (.int 4 0), (.ref 47)]) #[]) ::
  (cO #[(.str (.ofString "Refusal") 218), (.str (.ofString "Refusal") 219), (.str (.ofString "/claim/cut.py") 220), (.int 7 0), (.int 0 0), (.int 0 0), (.int 0 0), (.int 0 0), (.ref 38), (.bool Bool.false), (.int 181 0), (.ref 39), .none, .none, .none, .none, (.int 221 0), (.int 7 0), (.str (.ofString "/claim/cut.py") 222)]) ::
  (PySem.Obj.mk (.type "frame") none PySem.Data.plain #[(some (.ref 40)), (some (.ref 3)), (some (.ref 37)), none, (some (.str (.ofString "vectorcove.errors") 194)), none, (some (.ref 0))]) ::
  (tO #[] 0) ::
  (PySem.Obj.mk .none none (PySem.Data.fields #[]) #[]) ::
  (tO #[(.str (.ofString "self") 231), (.str (.ofString "message") 232)] 0) ::
  (tO #[] 0) ::
  (gS (inC (at_ 3) 0) (.ofString "__init__") (.ofString "Refusal.__init__") 0 [] .none .none .none .none none .none .none 0) ::
  (cO #[(.str (.ofString "__init__") 228), (.str (.ofString "Refusal.__init__") 229), (.str (.ofString "/claim/cut.py") 230), (.int 9 0), (.int 2 0), (.int 0 0), (.int 0 0), (.int 3 0), (.ref 42), (.bool Bool.true), (.int 181 0), (.ref 43), .none, (.ref 44), (.ref 45), (.ref 46), (.int 233 0), (.int 9 0), (.str (.ofString "/claim/cut.py") 234)]) ::
  (fS (inC (at_ 3) 0) (.ofString "__init__") (.ofString "Refusal.__init__") 3 [] .none .none .none (.str (.ofString "vectorcove.errors") 194) none (.ref 47) .none 0) ::
  (tO #[(.str (.ofString "message") 236)] 0) ::
  (PySem.Obj.mk (.type "dict") none (PySem.Data.dict #[(PySem.DictEntry.mk (PySem.PyData.keyHash P (.ofString "__module__")) (.str (.ofString "__module__") 223) (.str (.ofString "vectorcove.errors") 194)), (PySem.DictEntry.mk (PySem.PyData.keyHash P (.ofString "__firstlineno__")) (.str (.ofString "__firstlineno__") 227) (.int 7 226)), (PySem.DictEntry.mk (PySem.PyData.keyHash P (.ofString "__init__")) (.str (.ofString "__init__") 235) (.ref 48)), (PySem.DictEntry.mk (PySem.PyData.keyHash P (.ofString "__static_attributes__")) (.str (.ofString "__static_attributes__") 237) (.ref 49)), (PySem.DictEntry.mk (PySem.PyData.keyHash P (.ofString "__doc__")) (.str (.ofString "__doc__") 238) .none)] 2) #[]) ::
  (PySem.Obj.mk (.type "type") none (PySem.Data.cls (PySem.ClassData.mk (.ofString "Refusal") [(.ref 31)] [(.ref 51), (.ref 31), (.type "Exception"), (.type "BaseException"), (.type "object")] 50 (.ofString "Refusal") Bool.true [] [] Bool.false none Bool.false)) #[(some (.ref 35)), none, (some (.str (.ofString "Refusal") 216)), (some (.str (.ofString "Refusal") 224)), (some (.builtin "Exception.__new__")), (some (.bool Bool.true))]) ::
  (PySem.Obj.mk (.type "super") none (PySem.Data.fields #[(.ref 51), (.ref 51), (.ref 51)]) #[]) ::
  (PySem.Obj.mk (.type "builtin_function_or_method") none (PySem.Data.fields #[(.builtin "object.__init_subclass__"), (.ref 51)]) #[]) ::
  (tO #[] 0) ::
  (PySem.Obj.mk (.type "builtin_function_or_method") none (PySem.Data.fields #[(.builtin "type.__prepare__"), (.type "type")]) #[]) ::
  (PySem.Obj.mk (.type "dict") none (PySem.Data.dict #[(PySem.DictEntry.mk (PySem.PyData.keyHash P (.ofString "__module__")) (.str (.ofString "__module__") 250) (.str (.ofString "vectorcove.values") 241)), (PySem.DictEntry.mk (PySem.PyData.keyHash P (.ofString "__qualname__")) (.str (.ofString "__qualname__") 252) (.str (.ofString "Null") 251)), (PySem.DictEntry.mk (PySem.PyData.keyHash P (.ofString "__firstlineno__")) (.str (.ofString "__firstlineno__") 254) (.int 12 253)), (PySem.DictEntry.mk (PySem.PyData.keyHash P (.ofString "__init__")) (.str (.ofString "__init__") 261) (.ref 67)), (PySem.DictEntry.mk (PySem.PyData.keyHash P (.ofString "__static_attributes__")) (.str (.ofString "__static_attributes__") 264) (.ref 68))] 5) #[]) ::
  (tO #[] 0) ::
  (PySem.Obj.mk .none none (PySem.Data.fields #[(.int 14 0), (.int 4 0), (.ref 66)]) #[]) ::
  (cO #[(.str (.ofString "Null") 245), (.str (.ofString "Null") 246), (.str (.ofString "/claim/cut.py") 247), (.int 12 0), (.int 0 0), (.int 0 0), (.int 0 0), (.int 0 0), (.ref 57), (.bool Bool.false), (.int 181 0), (.ref 58), .none, .none, .none, .none, (.int 248 0), (.int 12 0), (.str (.ofString "/claim/cut.py") 249)]) ::
  (PySem.Obj.mk (.type "frame") none PySem.Data.plain #[(some (.ref 59)), (some (.ref 3)), (some (.ref 56)), none, (some (.str (.ofString "vectorcove.values") 241)), none, (some (.ref 0))]) ::
  (tO #[] 0) ::
  (PySem.Obj.mk .none none (PySem.Data.fields #[]) #[]) ::
  (tO #[(.str (.ofString "self") 258)] 0) ::
  (tO #[] 0) ::
  (gS (inC (at_ 5) 0) (.ofString "__init__") (.ofString "Null.__init__") 0 [] .none .none .none .none none .none .none 0) ::
  (cO #[(.str (.ofString "__init__") 255), (.str (.ofString "Null.__init__") 256), (.str (.ofString "/claim/cut.py") 257), (.int 14 0), (.int 1 0), (.int 0 0), (.int 0 0), (.int 3 0), (.ref 61), (.bool Bool.true), (.int 181 0), (.ref 62), .none, (.ref 63), (.ref 64), (.ref 65), (.int 259 0), (.int 14 0), (.str (.ofString "/claim/cut.py") 260)]) ::
  (fS (inC (at_ 5) 0) (.ofString "__init__") (.ofString "Null.__init__") 3 [] .none .none .none (.str (.ofString "vectorcove.values") 241) none (.ref 66) .none 0) ::
  (tO #[(.str (.ofString "attrs") 262), (.str (.ofString "kind") 263)] 0) ::
  (PySem.Obj.mk (.type "dict") none (PySem.Data.dict #[(PySem.DictEntry.mk (PySem.PyData.keyHash P (.ofString "__module__")) (.str (.ofString "__module__") 250) (.str (.ofString "vectorcove.values") 241)), (PySem.DictEntry.mk (PySem.PyData.keyHash P (.ofString "__firstlineno__")) (.str (.ofString "__firstlineno__") 254) (.int 12 253)), (PySem.DictEntry.mk (PySem.PyData.keyHash P (.ofString "__init__")) (.str (.ofString "__init__") 261) (.ref 67)), (PySem.DictEntry.mk (PySem.PyData.keyHash P (.ofString "__static_attributes__")) (.str (.ofString "__static_attributes__") 264) (.ref 68)), (PySem.DictEntry.mk (PySem.PyData.keyHash P (.ofString "__dict__")) (.str (.ofString "__dict__") 266) (.ref 71)), (PySem.DictEntry.mk (PySem.PyData.keyHash P (.ofString "__weakref__")) (.str (.ofString "__weakref__") 268) (.ref 72)), (PySem.DictEntry.mk (PySem.PyData.keyHash P (.ofString "__doc__")) (.str (.ofString "__doc__") 269) .none)] 4) #[]) ::
  (PySem.Obj.mk (.type "type") none (PySem.Data.cls (PySem.ClassData.mk (.ofString "Null") [(.type "object")] [(.ref 70), (.type "object")] 69 (.ofString "Null") Bool.true [] [] Bool.false none Bool.false)) #[none, none, (some (.str (.ofString "Null") 243)), (some (.str (.ofString "Null") 251)), (some (.builtin "object.__new__")), (some (.bool Bool.true))]) ::
  (PySem.Obj.mk (.type "getset_descriptor") none (PySem.Data.fields #[(.str (.ofString "__dict__") 265), (.ref 70), (.builtin "function.__dict__"), (.builtin "function.__dict__#set")]) #[]) ::
  (PySem.Obj.mk (.type "getset_descriptor") none (PySem.Data.fields #[(.str (.ofString "__weakref__") 267), (.ref 70), (.builtin "ExceptionGroup.__weakref__"), .none]) #[]) ::
  (PySem.Obj.mk (.type "super") none (PySem.Data.fields #[(.ref 70), (.ref 70), (.ref 70)]) #[]) ::
  (PySem.Obj.mk (.type "builtin_function_or_method") none (PySem.Data.fields #[(.builtin "object.__init_subclass__"), (.ref 70)]) #[]) ::
  (tO #[] 0) ::
  (PySem.Obj.mk (.type "builtin_function_or_method") none (PySem.Data.fields #[(.builtin "type.__prepare__"), (.type "type")]) #[]) ::
  (PySem.Obj.mk (.type "dict") none (PySem.Data.dict #[(PySem.DictEntry.mk (PySem.PyData.keyHash P (.ofString "__module__")) (.str (.ofString "__module__") 279) (.str (.ofString "vectorcove.values") 241)), (PySem.DictEntry.mk (PySem.PyData.keyHash P (.ofString "__qualname__")) (.str (.ofString "__qualname__") 281) (.str (.ofString "Vector") 280)), (PySem.DictEntry.mk (PySem.PyData.keyHash P (.ofString "__firstlineno__")) (.str (.ofString "__firstlineno__") 283) (.int 17 282)), (PySem.DictEntry.mk (PySem.PyData.keyHash P (.ofString "__init__")) (.str (.ofString "__init__") 293) (.ref 89)), (PySem.DictEntry.mk (PySem.PyData.keyHash P (.ofString "copy")) (.str (.ofString "copy") 300) (.ref 96)), (PySem.DictEntry.mk (PySem.PyData.keyHash P (.ofString "__static_attributes__")) (.str (.ofString "__static_attributes__") 306) (.ref 97))] 6) #[]) ::
  (tO #[] 0) ::
  (PySem.Obj.mk .none none (PySem.Data.fields #[(.int 19 0), (.int 4 0), (.ref 88), (.int 26 0), (.int 4 0), (.ref 95)]) #[]) ::
  (cO #[(.str (.ofString "Vector") 274), (.str (.ofString "Vector") 275), (.str (.ofString "/claim/cut.py") 276), (.int 17 0), (.int 0 0), (.int 0 0), (.int 0 0), (.int 0 0), (.ref 78), (.bool Bool.false), (.int 181 0), (.ref 79), .none, .none, .none, .none, (.int 277 0), (.int 17 0), (.str (.ofString "/claim/cut.py") 278)]) ::
  (PySem.Obj.mk (.type "frame") none PySem.Data.plain #[(some (.ref 80)), (some (.ref 3)), (some (.ref 77)), none, (some (.str (.ofString "vectorcove.values") 241)), none, (some (.ref 0))]) ::
  (tO #[.none] 0) ::
  (tO #[] 0) ::
  (PySem.Obj.mk .none none (PySem.Data.fields #[]) #[]) ::
  (tO #[(.str (.ofString "self") 287), (.str (.ofString "kind") 288), (.str (.ofString "items") 289), (.str (.ofString "attrs") 290)] 0) ::
  (tO #[] 0) ::
  (gS (inC (at_ 6) 0) (.ofString "__init__") (.ofString "Vector.__init__") 0 [] .none .none .none .none none .none .none 0) ::
  (cO #[(.str (.ofString "__init__") 284), (.str (.ofString "Vector.__init__") 285), (.str (.ofString "/claim/cut.py") 286), (.int 19 0), (.int 4 0), (.int 0 0), (.int 0 0), (.int 3 0), (.ref 83), (.bool Bool.true), (.int 181 0), (.ref 84), .none, (.ref 85), (.ref 86), (.ref 87), (.int 291 0), (.int 19 0), (.str (.ofString "/claim/cut.py") 292)]) ::
  (fS (inC (at_ 6) 0) (.ofString "__init__") (.ofString "Vector.__init__") 3 [] (.ref 82) .none .none (.str (.ofString "vectorcove.values") 241) none (.ref 88) .none 0) ::
  (tO #[] 0) ::
  (PySem.Obj.mk .none none (PySem.Data.fields #[]) #[]) ::
  (tO #[(.str (.ofString "self") 297)] 0) ::
  (tO #[] 0) ::
  (gS (inC (at_ 6) 1) (.ofString "copy") (.ofString "Vector.copy") 0 [] .none .none .none .none none .none .none 0) ::
  (cO #[(.str (.ofString "copy") 294), (.str (.ofString "Vector.copy") 295), (.str (.ofString "/claim/cut.py") 296), (.int 26 0), (.int 1 0), (.int 0 0), (.int 0 0), (.int 3 0), (.ref 90), (.bool Bool.true), (.int 181 0), (.ref 91), .none, (.ref 92), (.ref 93), (.ref 94), (.int 298 0), (.int 26 0), (.str (.ofString "/claim/cut.py") 299)]) ::
  (fS (inC (at_ 6) 1) (.ofString "copy") (.ofString "Vector.copy") 3 [] .none .none .none (.str (.ofString "vectorcove.values") 241) none (.ref 95) .none 0) ::
  (tO #[(.str (.ofString "attrs") 301), (.str (.ofString "items") 302), (.str (.ofString "kind") 303), (.str (.ofString "loose") 304), (.str (.ofString "shared") 305)] 0) ::
  (PySem.Obj.mk (.type "dict") none (PySem.Data.dict #[(PySem.DictEntry.mk (PySem.PyData.keyHash P (.ofString "__module__")) (.str (.ofString "__module__") 279) (.str (.ofString "vectorcove.values") 241)), (PySem.DictEntry.mk (PySem.PyData.keyHash P (.ofString "__firstlineno__")) (.str (.ofString "__firstlineno__") 283) (.int 17 282)), (PySem.DictEntry.mk (PySem.PyData.keyHash P (.ofString "__init__")) (.str (.ofString "__init__") 293) (.ref 89)), (PySem.DictEntry.mk (PySem.PyData.keyHash P (.ofString "copy")) (.str (.ofString "copy") 300) (.ref 96)), (PySem.DictEntry.mk (PySem.PyData.keyHash P (.ofString "__static_attributes__")) (.str (.ofString "__static_attributes__") 306) (.ref 97)), (PySem.DictEntry.mk (PySem.PyData.keyHash P (.ofString "__dict__")) (.str (.ofString "__dict__") 308) (.ref 100)), (PySem.DictEntry.mk (PySem.PyData.keyHash P (.ofString "__weakref__")) (.str (.ofString "__weakref__") 310) (.ref 101)), (PySem.DictEntry.mk (PySem.PyData.keyHash P (.ofString "__doc__")) (.str (.ofString "__doc__") 311) .none)] 4) #[]) ::
  (PySem.Obj.mk (.type "type") none (PySem.Data.cls (PySem.ClassData.mk (.ofString "Vector") [(.type "object")] [(.ref 99), (.type "object")] 98 (.ofString "Vector") Bool.true [] [] Bool.false none Bool.false)) #[none, none, (some (.str (.ofString "Vector") 272)), (some (.str (.ofString "Vector") 280)), (some (.builtin "object.__new__")), (some (.bool Bool.true))]) ::
  (PySem.Obj.mk (.type "getset_descriptor") none (PySem.Data.fields #[(.str (.ofString "__dict__") 307), (.ref 99), (.builtin "function.__dict__"), (.builtin "function.__dict__#set")]) #[]) ::
  (PySem.Obj.mk (.type "getset_descriptor") none (PySem.Data.fields #[(.str (.ofString "__weakref__") 309), (.ref 99), (.builtin "ExceptionGroup.__weakref__"), .none]) #[]) ::
  (PySem.Obj.mk (.type "super") none (PySem.Data.fields #[(.ref 99), (.ref 99), (.ref 99)]) #[]) ::
  (PySem.Obj.mk (.type "builtin_function_or_method") none (PySem.Data.fields #[(.builtin "object.__init_subclass__"), (.ref 99)]) #[]) ::
  (tO #[] 0) ::
  (PySem.Obj.mk .none none (PySem.Data.fields #[]) #[]) ::
  (tO #[(.str (.ofString "items") 317)] 0) ::
  (tO #[] 0) ::
  (gS (at_ 7) (.ofString "integer") (.ofString "integer") 0 [] .none .none .none .none none .none .none 0) ::
  (cO #[(.str (.ofString "integer") 314), (.str (.ofString "integer") 315), (.str (.ofString "/claim/cut.py") 316), (.int 28 0), (.int 1 0), (.int 0 0), (.int 0 0), (.int 3 0), (.ref 104), (.bool Bool.true), (.int 181 0), (.ref 105), .none, (.ref 106), (.ref 107), (.ref 108), (.int 318 0), (.int 28 0), (.str (.ofString "/claim/cut.py") 319)]) ::
  (fS (at_ 7) (.ofString "integer") (.ofString "integer") 3 [] .none .none .none (.str (.ofString "vectorcove.values") 241) none (.ref 109) .none 0) ::
  (tO #[] 0) ::
  (PySem.Obj.mk .none none (PySem.Data.fields #[]) #[]) ::
  (tO #[(.str (.ofString "items") 324)] 0) ::
  (tO #[] 0) ::
  (gS (at_ 8) (.ofString "character") (.ofString "character") 0 [] .none .none .none .none none .none .none 0) ::
  (cO #[(.str (.ofString "character") 321), (.str (.ofString "character") 322), (.str (.ofString "/claim/cut.py") 323), (.int 30 0), (.int 1 0), (.int 0 0), (.int 0 0), (.int 3 0), (.ref 111), (.bool Bool.true), (.int 181 0), (.ref 112), .none, (.ref 113), (.ref 114), (.ref 115), (.int 325 0), (.int 30 0), (.str (.ofString "/claim/cut.py") 326)]) ::
  (fS (at_ 8) (.ofString "character") (.ofString "character") 3 [] .none .none .none (.str (.ofString "vectorcove.values") 241) none (.ref 116) .none 0) ::
  (tO #[] 0) ::
  (PySem.Obj.mk .none none (PySem.Data.fields #[]) #[]) ::
  (tO #[(.str (.ofString "v") 331), (.str (.ofString "kind") 332)] 0) ::
  (tO #[] 0) ::
  (gS (at_ 9) (.ofString "length") (.ofString "length") 0 [] .none .none .none .none none .none .none 0) ::
  (cO #[(.str (.ofString "length") 328), (.str (.ofString "length") 329), (.str (.ofString "/claim/cut.py") 330), (.int 32 0), (.int 1 0), (.int 0 0), (.int 0 0), (.int 3 0), (.ref 118), (.bool Bool.true), (.int 181 0), (.ref 119), .none, (.ref 120), (.ref 121), (.ref 122), (.int 333 0), (.int 32 0), (.str (.ofString "/claim/cut.py") 334)]) ::
  (fS (at_ 9) (.ofString "length") (.ofString "length") 3 [] .none .none .none (.str (.ofString "vectorcove.values") 241) none (.ref 123) .none 0) ::
  (tO #[] 0) ::
  (PySem.Obj.mk .none none (PySem.Data.fields #[]) #[]) ::
  (tO #[(.str (.ofString "v") 339)] 0) ::
  (tO #[] 0) ::
  (gS (at_ 10) (.ofString "is_atomic") (.ofString "is_atomic") 0 [] .none .none .none .none none .none .none 0) ::
  (cO #[(.str (.ofString "is_atomic") 336), (.str (.ofString "is_atomic") 337), (.str (.ofString "/claim/cut.py") 338), (.int 43 0), (.int 1 0), (.int 0 0), (.int 0 0), (.int 3 0), (.ref 125), (.bool Bool.true), (.int 181 0), (.ref 126), .none, (.ref 127), (.ref 128), (.ref 129), (.int 340 0), (.int 43 0), (.str (.ofString "/claim/cut.py") 341)]) ::
  (fS (at_ 10) (.ofString "is_atomic") (.ofString "is_atomic") 3 [] .none .none .none (.str (.ofString "vectorcove.values") 241) none (.ref 130) .none 0) ::
  (tO #[] 0) ::
  (PySem.Obj.mk .none none (PySem.Data.fields #[]) #[]) ::
  (tO #[(.str (.ofString "v") 346)] 0) ::
  (tO #[] 0) ::
  (gS (at_ 11) (.ofString "share") (.ofString "share") 0 [] .none .none .none .none none .none .none 0) ::
  (cO #[(.str (.ofString "share") 343), (.str (.ofString "share") 344), (.str (.ofString "/claim/cut.py") 345), (.int 45 0), (.int 1 0), (.int 0 0), (.int 0 0), (.int 3 0), (.ref 132), (.bool Bool.true), (.int 181 0), (.ref 133), .none, (.ref 134), (.ref 135), (.ref 136), (.int 347 0), (.int 45 0), (.str (.ofString "/claim/cut.py") 348)]) ::
  (fS (at_ 11) (.ofString "share") (.ofString "share") 3 [] .none .none .none (.str (.ofString "vectorcove.values") 241) none (.ref 137) .none 0) ::
  (tO #[] 0) ::
  (PySem.Obj.mk .none none (PySem.Data.fields #[]) #[]) ::
  (tO #[(.str (.ofString "v") 355), (.str (.ofString "name") 356)] 0) ::
  (tO #[] 0) ::
  (gS (at_ 13) (.ofString "get_attr") (.ofString "get_attr") 0 [] .none .none .none .none none .none .none 0) ::
  (cO #[(.str (.ofString "get_attr") 352), (.str (.ofString "get_attr") 353), (.str (.ofString "/claim/cut.py") 354), (.int 50 0), (.int 2 0), (.int 0 0), (.int 0 0), (.int 3 0), (.ref 139), (.bool Bool.true), (.int 181 0), (.ref 140), .none, (.ref 141), (.ref 142), (.ref 143), (.int 357 0), (.int 50 0), (.str (.ofString "/claim/cut.py") 358)]) ::
  (fS (at_ 13) (.ofString "get_attr") (.ofString "get_attr") 3 [] .none .none .none (.str (.ofString "vectorcove.attrs") 350) none (.ref 144) .none 0) ::
  (tO #[] 0) ::
  (PySem.Obj.mk .none none (PySem.Data.fields #[]) #[]) ::
  (gS (at_ 14) (.ofString "names_of") (.ofString "names_of") 0 [] .none .none .none .none none .none .none 0) ::
  (cO #[(.str (.ofString "names_of") 360), (.str (.ofString "names_of") 361), (.str (.ofString "/claim/cut.py") 362), (.int 54 0), (.int 1 0), (.int 0 0), (.int 0 0), (.int 3 0), (.ref 146), (.bool Bool.true), (.int 181 0), (.ref 147), .none, .none, .none, (.ref 148), (.int 363 0), (.int 54 0), (.str (.ofString "/claim/cut.py") 364)]) ::
  (fS (at_ 14) (.ofString "names_of") (.ofString "names_of") 3 [] .none .none .none (.str (.ofString "vectorcove.attrs") 350) none (.ref 149) .none 0) ::
  (tO #[] 0) ::
  (PySem.Obj.mk .none none (PySem.Data.fields #[]) #[]) ::
  (tO #[(.str (.ofString "v") 369), (.str (.ofString "dims") 370)] 0) ::
  (tO #[] 0) ::
  (gS (at_ 15) (.ofString "dim_of") (.ofString "dim_of") 0 [] .none .none .none .none none .none .none 0) ::
  (cO #[(.str (.ofString "dim_of") 366), (.str (.ofString "dim_of") 367), (.str (.ofString "/claim/cut.py") 368), (.int 70 0), (.int 1 0), (.int 0 0), (.int 0 0), (.int 3 0), (.ref 151), (.bool Bool.true), (.int 181 0), (.ref 152), .none, (.ref 153), (.ref 154), (.ref 155), (.int 371 0), (.int 70 0), (.str (.ofString "/claim/cut.py") 372)]) ::
  (fS (at_ 15) (.ofString "dim_of") (.ofString "dim_of") 3 [] .none .none .none (.str (.ofString "vectorcove.attrs") 350) none (.ref 156) .none 0) ::
  (tO #[] 0) ::
  (PySem.Obj.mk .none none (PySem.Data.fields #[]) #[]) ::
  (gS (at_ 16) (.ofString "dimnames_of") (.ofString "dimnames_of") 0 [] .none .none .none .none none .none .none 0) ::
  (cO #[(.str (.ofString "dimnames_of") 374), (.str (.ofString "dimnames_of") 375), (.str (.ofString "/claim/cut.py") 376), (.int 75 0), (.int 1 0), (.int 0 0), (.int 0 0), (.int 3 0), (.ref 158), (.bool Bool.true), (.int 181 0), (.ref 159), .none, .none, .none, (.ref 160), (.int 377 0), (.int 75 0), (.str (.ofString "/claim/cut.py") 378)]) ::
  (fS (at_ 16) (.ofString "dimnames_of") (.ofString "dimnames_of") 3 [] .none .none .none (.str (.ofString "vectorcove.attrs") 350) none (.ref 161) .none 0) ::
  (tO #[(.int 0 382), (.int 0 383)] 0) ::
  (tO #[(.int 1 385), (.int 0 386)] 0) ::
  (tO #[(.int 0 388), (.int 1 389)] 0) ::
  (tO #[] 0) ::
  (PySem.Obj.mk .none none (PySem.Data.fields #[]) #[]) ::
  (tO #[(.str (.ofString "a") 394), (.str (.ofString "b") 395)] 0) ::
  (tO #[] 0) ::
  (gS (at_ 21) (.ofString "gcd") (.ofString "gcd") 0 [] .none .none .none .none none .none .none 0) ::
  (cO #[(.str (.ofString "gcd") 391), (.str (.ofString "gcd") 392), (.str (.ofString "/claim/cut.py") 393), (.int 84 0), (.int 2 0), (.int 0 0), (.int 0 0), (.int 3 0), (.ref 166), (.bool Bool.true), (.int 181 0), (.ref 167), .none, (.ref 168), (.ref 169), (.ref 170), (.int 396 0), (.int 84 0), (.str (.ofString "/claim/cut.py") 397)]) ::
  (fS (at_ 21) (.ofString "gcd") (.ofString "gcd") 3 [] .none .none .none (.str (.ofString "vectorcove.rational") 380) none (.ref 171) .none 0) ::
  (tO #[] 0) ::
  (PySem.Obj.mk .none none (PySem.Data.fields #[]) #[]) ::
  (tO #[(.str (.ofString "n") 402), (.str (.ofString "d") 403), (.str (.ofString "common") 404)] 0) ::
  (tO #[] 0) ::
  (gS (at_ 22) (.ofString "make") (.ofString "make") 0 [] .none .none .none .none none .none .none 0) ::
  (cO #[(.str (.ofString "make") 399), (.str (.ofString "make") 400), (.str (.ofString "/claim/cut.py") 401), (.int 88 0), (.int 2 0), (.int 0 0), (.int 0 0), (.int 3 0), (.ref 173), (.bool Bool.true), (.int 181 0), (.ref 174), .none, (.ref 175), (.ref 176), (.ref 177), (.int 405 0), (.int 88 0), (.str (.ofString "/claim/cut.py") 406)]) ::
  (fS (at_ 22) (.ofString "make") (.ofString "make") 3 [] .none .none .none (.str (.ofString "vectorcove.rational") 380) none (.ref 178) .none 0) ::
  (tO #[] 0) ::
  (PySem.Obj.mk .none none (PySem.Data.fields #[]) #[]) ::
  (tO #[(.str (.ofString "n") 411)] 0) ::
  (tO #[] 0) ::
  (gS (at_ 23) (.ofString "from_int") (.ofString "from_int") 0 [] .none .none .none .none none .none .none 0) ::
  (cO #[(.str (.ofString "from_int") 408), (.str (.ofString "from_int") 409), (.str (.ofString "/claim/cut.py") 410), (.int 98 0), (.int 1 0), (.int 0 0), (.int 0 0), (.int 3 0), (.ref 180), (.bool Bool.true), (.int 181 0), (.ref 181), .none, (.ref 182), (.ref 183), (.ref 184), (.int 412 0), (.int 98 0), (.str (.ofString "/claim/cut.py") 413)]) ::
  (fS (at_ 23) (.ofString "from_int") (.ofString "from_int") 3 [] .none .none .none (.str (.ofString "vectorcove.rational") 380) none (.ref 185) .none 0) ::
  (tO #[] 0) ::
  (PySem.Obj.mk .none none (PySem.Data.fields #[]) #[]) ::
  (tO #[(.str (.ofString "x") 418)] 0) ::
  (tO #[] 0) ::
  (gS (at_ 24) (.ofString "is_na") (.ofString "is_na") 0 [] .none .none .none .none none .none .none 0) ::
  (cO #[(.str (.ofString "is_na") 415), (.str (.ofString "is_na") 416), (.str (.ofString "/claim/cut.py") 417), (.int 102 0), (.int 1 0), (.int 0 0), (.int 0 0), (.int 3 0), (.ref 187), (.bool Bool.true), (.int 181 0), (.ref 188), .none, (.ref 189), (.ref 190), (.ref 191), (.int 419 0), (.int 102 0), (.str (.ofString "/claim/cut.py") 420)]) ::
  (fS (at_ 24) (.ofString "is_na") (.ofString "is_na") 3 [] .none .none .none (.str (.ofString "vectorcove.rational") 380) none (.ref 192) .none 0) ::
  (tO #[] 0) ::
  (PySem.Obj.mk .none none (PySem.Data.fields #[]) #[]) ::
  (tO #[(.str (.ofString "x") 425)] 0) ::
  (tO #[] 0) ::
  (gS (at_ 25) (.ofString "is_finite") (.ofString "is_finite") 0 [] .none .none .none .none none .none .none 0) ::
  (cO #[(.str (.ofString "is_finite") 422), (.str (.ofString "is_finite") 423), (.str (.ofString "/claim/cut.py") 424), (.int 104 0), (.int 1 0), (.int 0 0), (.int 0 0), (.int 3 0), (.ref 194), (.bool Bool.true), (.int 181 0), (.ref 195), .none, (.ref 196), (.ref 197), (.ref 198), (.int 426 0), (.int 104 0), (.str (.ofString "/claim/cut.py") 427)]) ::
  (fS (at_ 25) (.ofString "is_finite") (.ofString "is_finite") 3 [] .none .none .none (.str (.ofString "vectorcove.rational") 380) none (.ref 199) .none 0) ::
  (tO #[] 0) ::
  (PySem.Obj.mk .none none (PySem.Data.fields #[]) #[]) ::
  (tO #[(.str (.ofString "x") 432)] 0) ::
  (tO #[] 0) ::
  (gS (at_ 26) (.ofString "neg") (.ofString "neg") 0 [] .none .none .none .none none .none .none 0) ::
  (cO #[(.str (.ofString "neg") 429), (.str (.ofString "neg") 430), (.str (.ofString "/claim/cut.py") 431), (.int 106 0), (.int 1 0), (.int 0 0), (.int 0 0), (.int 3 0), (.ref 201), (.bool Bool.true), (.int 181 0), (.ref 202), .none, (.ref 203), (.ref 204), (.ref 205), (.int 433 0), (.int 106 0), (.str (.ofString "/claim/cut.py") 434)]) ::
  (fS (at_ 26) (.ofString "neg") (.ofString "neg") 3 [] .none .none .none (.str (.ofString "vectorcove.rational") 380) none (.ref 206) .none 0) ::
  (tO #[] 0) ::
  (PySem.Obj.mk .none none (PySem.Data.fields #[]) #[]) ::
  (tO #[(.str (.ofString "x") 439), (.str (.ofString "found") 440)] 0) ::
  (tO #[] 0) ::
  (gS (at_ 27) (.ofString "to_whole") (.ofString "to_whole") 0 [] .none .none .none .none none .none .none 0) ::
  (cO #[(.str (.ofString "to_whole") 436), (.str (.ofString "to_whole") 437), (.str (.ofString "/claim/cut.py") 438), (.int 110 0), (.int 1 0), (.int 0 0), (.int 0 0), (.int 3 0), (.ref 208), (.bool Bool.true), (.int 181 0), (.ref 209), .none, (.ref 210), (.ref 211), (.ref 212), (.int 441 0), (.int 110 0), (.str (.ofString "/claim/cut.py") 442)]) ::
  (fS (at_ 27) (.ofString "to_whole") (.ofString "to_whole") 3 [] .none .none .none (.str (.ofString "vectorcove.rational") 380) none (.ref 213) .none 0) ::
  (tO #[] 0) ::
  (PySem.Obj.mk .none none (PySem.Data.fields #[]) #[]) ::
  (tO #[(.str (.ofString "n") 447), (.str (.ofString "d") 448), (.str (.ofString "low") 449), (.str (.ofString "rest") 450)] 0) ::
  (tO #[] 0) ::
  (gS (at_ 28) (.ofString "nearest_whole") (.ofString "nearest_whole") 0 [] .none .none .none .none none .none .none 0) ::
  (cO #[(.str (.ofString "nearest_whole") 444), (.str (.ofString "nearest_whole") 445), (.str (.ofString "/claim/cut.py") 446), (.int 115 0), (.int 2 0), (.int 0 0), (.int 0 0), (.int 3 0), (.ref 215), (.bool Bool.true), (.int 181 0), (.ref 216), .none, (.ref 217), (.ref 218), (.ref 219), (.int 451 0), (.int 115 0), (.str (.ofString "/claim/cut.py") 452)]) ::
  (fS (at_ 28) (.ofString "nearest_whole") (.ofString "nearest_whole") 3 [] .none .none .none (.str (.ofString "vectorcove.rational") 380) none (.ref 220) .none 0) ::
  (tO #[] 0) ::
  (PySem.Obj.mk .none none (PySem.Data.fields #[]) #[]) ::
  (tO #[(.str (.ofString "x") 457), (.str (.ofString "n") 458), (.str (.ofString "d") 459), (.str (.ofString "e") 460)] 0) ::
  (tO #[] 0) ::
  (gS (at_ 29) (.ofString "exponent") (.ofString "exponent") 0 [] .none .none .none .none none .none .none 0) ::
  (cO #[(.str (.ofString "exponent") 454), (.str (.ofString "exponent") 455), (.str (.ofString "/claim/cut.py") 456), (.int 121 0), (.int 1 0), (.int 0 0), (.int 0 0), (.int 3 0), (.ref 222), (.bool Bool.true), (.int 181 0), (.ref 223), .none, (.ref 224), (.ref 225), (.ref 226), (.int 461 0), (.int 121 0), (.str (.ofString "/claim/cut.py") 462)]) ::
  (fS (at_ 29) (.ofString "exponent") (.ofString "exponent") 3 [] .none .none .none (.str (.ofString "vectorcove.rational") 380) none (.ref 227) .none 0) ::
  (tO #[] 0) ::
  (PySem.Obj.mk .none none (PySem.Data.fields #[]) #[]) ::
  (tO #[(.str (.ofString "n") 471), (.str (.ofString "rest") 472), (.str (.ofString "row") 473), (.str (.ofString "part") 474)] 0) ::
  (tO #[] 0) ::
  (gS (at_ 32) (.ofString "whole_text") (.ofString "whole_text") 0 [] .none .none .none .none none .none .none 0) ::
  (cO #[(.str (.ofString "whole_text") 468), (.str (.ofString "whole_text") 469), (.str (.ofString "/claim/cut.py") 470), (.int 134 0), (.int 1 0), (.int 0 0), (.int 0 0), (.int 3 0), (.ref 229), (.bool Bool.true), (.int 181 0), (.ref 230), .none, (.ref 231), (.ref 232), (.ref 233), (.int 475 0), (.int 134 0), (.str (.ofString "/claim/cut.py") 476)]) ::
  (fS (at_ 32) (.ofString "whole_text") (.ofString "whole_text") 3 [] .none .none .none (.str (.ofString "vectorcove.numtext") 464) none (.ref 234) .none 0) ::
  (tO #[] 0) ::
  (PySem.Obj.mk .none none (PySem.Data.fields #[]) #[]) ::
  (tO #[(.str (.ofString "x") 481)] 0) ::
  (tO #[] 0) ::
  (gS (at_ 33) (.ofString "special_text") (.ofString "special_text") 0 [] .none .none .none .none none .none .none 0) ::
  (cO #[(.str (.ofString "special_text") 478), (.str (.ofString "special_text") 479), (.str (.ofString "/claim/cut.py") 480), (.int 145 0), (.int 1 0), (.int 0 0), (.int 0 0), (.int 3 0), (.ref 236), (.bool Bool.true), (.int 181 0), (.ref 237), .none, (.ref 238), (.ref 239), (.ref 240), (.int 482 0), (.int 145 0), (.str (.ofString "/claim/cut.py") 483)]) ::
  (fS (at_ 33) (.ofString "special_text") (.ofString "special_text") 3 [] .none .none .none (.str (.ofString "vectorcove.numtext") 464) none (.ref 241) .none 0) ::
  (tO #[] 0) ::
  (PySem.Obj.mk .none none (PySem.Data.fields #[]) #[]) ::
  (tO #[(.str (.ofString "x") 488), (.str (.ofString "e") 489), (.str (.ofString "digits") 490), (.str (.ofString "shift") 491)] 0) ::
  (tO #[] 0) ::
  (gS (at_ 34) (.ofString "scaled") (.ofString "scaled") 0 [] .none .none .none .none none .none .none 0) ::
  (cO #[(.str (.ofString "scaled") 485), (.str (.ofString "scaled") 486), (.str (.ofString "/claim/cut.py") 487), (.int 153 0), (.int 3 0), (.int 0 0), (.int 0 0), (.int 3 0), (.ref 243), (.bool Bool.true), (.int 181 0), (.ref 244), .none, (.ref 245), (.ref 246), (.ref 247), (.int 492 0), (.int 153 0), (.str (.ofString "/claim/cut.py") 493)]) ::
  (fS (at_ 34) (.ofString "scaled") (.ofString "scaled") 3 [] .none .none .none (.str (.ofString "vectorcove.numtext") 464) none (.ref 248) .none 0) ::
  (tO #[] 0) ::
  (PySem.Obj.mk .none none (PySem.Data.fields #[]) #[]) ::
  (tO #[(.str (.ofString "x") 498), (.str (.ofString "digits") 499), (.str (.ofString "e") 500), (.str (.ofString "n") 501)] 0) ::
  (tO #[] 0) ::
  (gS (at_ 35) (.ofString "significant") (.ofString "significant") 0 [] .none .none .none .none none .none .none 0) ::
  (cO #[(.str (.ofString "significant") 495), (.str (.ofString "significant") 496), (.str (.ofString "/claim/cut.py") 497), (.int 158 0), (.int 2 0), (.int 0 0), (.int 0 0), (.int 3 0), (.ref 250), (.bool Bool.true), (.int 181 0), (.ref 251), .none, (.ref 252), (.ref 253), (.ref 254), (.int 502 0), (.int 158 0), (.str (.ofString "/claim/cut.py") 503)]) ::
  (fS (at_ 35) (.ofString "significant") (.ofString "significant") 3 [] .none .none .none (.str (.ofString "vectorcove.numtext") 464) none (.ref 255) .none 0) ::
  (tO #[] 0) ::
  (PySem.Obj.mk .none none (PySem.Data.fields #[]) #[]) ::
  (tO #[(.str (.ofString "text") 508), (.str (.ofString "end") 509)] 0) ::
  (tO #[] 0) ::
  (gS (at_ 36) (.ofString "without_tail") (.ofString "without_tail") 0 [] .none .none .none .none none .none .none 0) ::
  (cO #[(.str (.ofString "without_tail") 505), (.str (.ofString "without_tail") 506), (.str (.ofString "/claim/cut.py") 507), (.int 167 0), (.int 1 0), (.int 0 0), (.int 0 0), (.int 3 0), (.ref 257), (.bool Bool.true), (.int 181 0), (.ref 258), .none, (.ref 259), (.ref 260), (.ref 261), (.int 510 0), (.int 167 0), (.str (.ofString "/claim/cut.py") 511)]) ::
  (fS (at_ 36) (.ofString "without_tail") (.ofString "without_tail") 3 [] .none .none .none (.str (.ofString "vectorcove.numtext") 464) none (.ref 262) .none 0) ::
  (tO #[] 0) ::
  (PySem.Obj.mk .none none (PySem.Data.fields #[]) #[]) ::
  (tO #[(.str (.ofString "x") 516), (.str (.ofString "digits") 517), (.str (.ofString "side") 518), (.str (.ofString "text") 519), (.str (.ofString "e") 520), (.str (.ofString "row") 521)] 0) ::
  (tO #[] 0) ::
  (gS (at_ 37) (.ofString "scientific_text") (.ofString "scientific_text") 0 [] .none .none .none .none none .none .none 0) ::
  (cO #[(.str (.ofString "scientific_text") 513), (.str (.ofString "scientific_text") 514), (.str (.ofString "/claim/cut.py") 515), (.int 172 0), (.int 2 0), (.int 0 0), (.int 0 0), (.int 3 0), (.ref 264), (.bool Bool.true), (.int 181 0), (.ref 265), .none, (.ref 266), (.ref 267), (.ref 268), (.int 522 0), (.int 172 0), (.str (.ofString "/claim/cut.py") 523)]) ::
  (fS (at_ 37) (.ofString "scientific_text") (.ofString "scientific_text") 3 [] .none .none .none (.str (.ofString "vectorcove.numtext") 464) none (.ref 269) .none 0) ::
  (tO #[] 0) ::
  (PySem.Obj.mk .none none (PySem.Data.fields #[]) #[]) ::
  (tO #[(.str (.ofString "x") 528), (.str (.ofString "places") 529), (.str (.ofString "n") 530), (.str (.ofString "text") 531)] 0) ::
  (tO #[] 0) ::
  (gS (at_ 38) (.ofString "fixed_text") (.ofString "fixed_text") 0 [] .none .none .none .none none .none .none 0) ::
  (cO #[(.str (.ofString "fixed_text") 525), (.str (.ofString "fixed_text") 526), (.str (.ofString "/claim/cut.py") 527), (.int 179 0), (.int 2 0), (.int 0 0), (.int 0 0), (.int 3 0), (.ref 271), (.bool Bool.true), (.int 181 0), (.ref 272), .none, (.ref 273), (.ref 274), (.ref 275), (.int 532 0), (.int 179 0), (.str (.ofString "/claim/cut.py") 533)]) ::
  (fS (at_ 38) (.ofString "fixed_text") (.ofString "fixed_text") 3 [] .none .none .none (.str (.ofString "vectorcove.numtext") 464) none (.ref 276) .none 0) ::
  (tO #[] 0) ::
  (PySem.Obj.mk .none none (PySem.Data.fields #[]) #[]) ::
  (tO #[(.str (.ofString "x") 538), (.str (.ofString "digits") 539), (.str (.ofString "side") 540), (.str (.ofString "text") 541), (.str (.ofString "e") 542), (.str (.ofString "count") 543), (.str (.ofString "left") 544)] 0) ::
  (tO #[] 0) ::
  (gS (at_ 39) (.ofString "measures") (.ofString "measures") 0 [] .none .none .none .none none .none .none 0) ::
  (cO #[(.str (.ofString "measures") 535), (.str (.ofString "measures") 536), (.str (.ofString "/claim/cut.py") 537), (.int 187 0), (.int 2 0), (.int 0 0), (.int 0 0), (.int 3 0), (.ref 278), (.bool Bool.true), (.int 181 0), (.ref 279), .none, (.ref 280), (.ref 281), (.ref 282), (.int 545 0), (.int 187 0), (.str (.ofString "/claim/cut.py") 546)]) ::
  (fS (at_ 39) (.ofString "measures") (.ofString "measures") 3 [] .none .none .none (.str (.ofString "vectorcove.numtext") 464) none (.ref 283) .none 0) ::
  (tO #[] 0) ::
  (PySem.Obj.mk .none none (PySem.Data.fields #[]) #[]) ::
  (tO #[(.str (.ofString "xs") 551), (.str (.ofString "digits") 552), (.str (.ofString "count") 553), (.str (.ofString "left") 554), (.str (.ofString "places") 555), (.str (.ofString "wide") 556), (.str (.ofString "minus") 557), (.str (.ofString "x") 558), (.str (.ofString "row") 559), (.str (.ofString "fixed_width") 560), (.str (.ofString "scientific_width") 561)] 0) ::
  (tO #[] 0) ::
  (gS (at_ 40) (.ofString "chosen_form") (.ofString "chosen_form") 0 [] .none .none .none .none none .none .none 0) ::
  (cO #[(.str (.ofString "chosen_form") 548), (.str (.ofString "chosen_form") 549), (.str (.ofString "/claim/cut.py") 550), (.int 194 0), (.int 2 0), (.int 0 0), (.int 0 0), (.int 3 0), (.ref 285), (.bool Bool.true), (.int 181 0), (.ref 286), .none, (.ref 287), (.ref 288), (.ref 289), (.int 562 0), (.int 194 0), (.str (.ofString "/claim/cut.py") 563)]) ::
  (fS (at_ 40) (.ofString "chosen_form") (.ofString "chosen_form") 3 [] .none .none .none (.str (.ofString "vectorcove.numtext") 464) none (.ref 290) .none 0) ::
  (tO #[] 0) ::
  (PySem.Obj.mk .none none (PySem.Data.fields #[]) #[]) ::
  (tO #[(.str (.ofString "x") 568), (.str (.ofString "form") 569), (.str (.ofString "text") 570)] 0) ::
  (tO #[] 0) ::
  (gS (at_ 41) (.ofString "formed") (.ofString "formed") 0 [] .none .none .none .none none .none .none 0) ::
  (cO #[(.str (.ofString "formed") 565), (.str (.ofString "formed") 566), (.str (.ofString "/claim/cut.py") 567), (.int 214 0), (.int 2 0), (.int 0 0), (.int 0 0), (.int 3 0), (.ref 292), (.bool Bool.true), (.int 181 0), (.ref 293), .none, (.ref 294), (.ref 295), (.ref 296), (.int 571 0), (.int 214 0), (.str (.ofString "/claim/cut.py") 572)]) ::
  (fS (at_ 41) (.ofString "formed") (.ofString "formed") 3 [] .none .none .none (.str (.ofString "vectorcove.numtext") 464) none (.ref 297) .none 0) ::
  (tO #[] 0) ::
  (PySem.Obj.mk .none none (PySem.Data.fields #[]) #[]) ::
  (gS (at_ 42) (.ofString "common_texts") (.ofString "common_texts") 0 [] .none .none .none .none none .none .none 0) ::
  (cO #[(.str (.ofString "common_texts") 574), (.str (.ofString "common_texts") 575), (.str (.ofString "/claim/cut.py") 576), (.int 221 0), (.int 2 0), (.int 0 0), (.int 0 0), (.int 3 0), (.ref 299), (.bool Bool.true), (.int 181 0), (.ref 300), .none, .none, .none, (.ref 301), (.int 577 0), (.int 221 0), (.str (.ofString "/claim/cut.py") 578)]) ::
  (fS (at_ 42) (.ofString "common_texts") (.ofString "common_texts") 3 [] .none .none .none (.str (.ofString "vectorcove.numtext") 464) none (.ref 302) .none 0) ::
  (tO #[(.int 7 580)] 0) ::
  (tO #[] 0) ::
  (PySem.Obj.mk .none none (PySem.Data.fields #[]) #[]) ::
  (tO #[(.str (.ofString "x") 584), (.str (.ofString "digits") 585)] 0) ::
  (tO #[] 0) ::
  (gS (at_ 43) (.ofString "number_text") (.ofString "number_text") 0 [] .none .none .none .none none .none .none 0) ::
  (cO #[(.str (.ofString "number_text") 581), (.str (.ofString "number_text") 582), (.str (.ofString "/claim/cut.py") 583), (.int 225 0), (.int 2 0), (.int 0 0), (.int 0 0), (.int 3 0), (.ref 305), (.bool Bool.true), (.int 181 0), (.ref 306), .none, (.ref 307), (.ref 308), (.ref 309), (.int 586 0), (.int 225 0), (.str (.ofString "/claim/cut.py") 587)]) ::
  (fS (at_ 43) (.ofString "number_text") (.ofString "number_text") 3 [] (.ref 304) .none .none (.str (.ofString "vectorcove.numtext") 464) none (.ref 310) .none 0) ::
  (tO #[] 0) ::
  (PySem.Obj.mk .none none (PySem.Data.fields #[]) #[]) ::
  (tO #[(.str (.ofString "text") 592), (.str (.ofString "base") 593), (.str (.ofString "value") 594), (.str (.ofString "char") 595)] 0) ::
  (tO #[] 0) ::
  (gS (at_ 44) (.ofString "digits_value") (.ofString "digits_value") 0 [] .none .none .none .none none .none .none 0) ::
  (cO #[(.str (.ofString "digits_value") 589), (.str (.ofString "digits_value") 590), (.str (.ofString "/claim/cut.py") 591), (.int 227 0), (.int 2 0), (.int 0 0), (.int 0 0), (.int 3 0), (.ref 312), (.bool Bool.true), (.int 181 0), (.ref 313), .none, (.ref 314), (.ref 315), (.ref 316), (.int 596 0), (.int 227 0), (.str (.ofString "/claim/cut.py") 597)]) ::
  (fS (at_ 44) (.ofString "digits_value") (.ofString "digits_value") 3 [] .none .none .none (.str (.ofString "vectorcove.numtext") 464) none (.ref 317) .none 0) ::
  (tO #[] 0) ::
  (PySem.Obj.mk .none none (PySem.Data.fields #[]) #[]) ::
  (tO #[(.str (.ofString "text") 602), (.str (.ofString "at") 603), (.str (.ofString "digits") 604)] 0) ::
  (tO #[] 0) ::
  (gS (at_ 45) (.ofString "digit_run") (.ofString "digit_run") 0 [] .none .none .none .none none .none .none 0) ::
  (cO #[(.str (.ofString "digit_run") 599), (.str (.ofString "digit_run") 600), (.str (.ofString "/claim/cut.py") 601), (.int 232 0), (.int 3 0), (.int 0 0), (.int 0 0), (.int 3 0), (.ref 319), (.bool Bool.true), (.int 181 0), (.ref 320), .none, (.ref 321), (.ref 322), (.ref 323), (.int 605 0), (.int 232 0), (.str (.ofString "/claim/cut.py") 606)]) ::
  (fS (at_ 45) (.ofString "digit_run") (.ofString "digit_run") 3 [] .none .none .none (.str (.ofString "vectorcove.numtext") 464) none (.ref 324) .none 0) ::
  (tO #[] 0) ::
  (PySem.Obj.mk .none none (PySem.Data.fields #[]) #[]) ::
  (tO #[(.str (.ofString "text") 611), (.str (.ofString "start") 612), (.str (.ofString "value") 613)] 0) ::
  (tO #[] 0) ::
  (gS (at_ 46) (.ofString "exponent_value") (.ofString "exponent_value") 0 [] .none .none .none .none none .none .none 0) ::
  (cO #[(.str (.ofString "exponent_value") 608), (.str (.ofString "exponent_value") 609), (.str (.ofString "/claim/cut.py") 610), (.int 236 0), (.int 1 0), (.int 0 0), (.int 0 0), (.int 3 0), (.ref 326), (.bool Bool.true), (.int 181 0), (.ref 327), .none, (.ref 328), (.ref 329), (.ref 330), (.int 614 0), (.int 236 0), (.str (.ofString "/claim/cut.py") 615)]) ::
  (fS (at_ 46) (.ofString "exponent_value") (.ofString "exponent_value") 3 [] .none .none .none (.str (.ofString "vectorcove.numtext") 464) none (.ref 331) .none 0) ::
  (tO #[] 0) ::
  (PySem.Obj.mk .none none (PySem.Data.fields #[]) #[]) ::
  (tO #[(.str (.ofString "n") 620), (.str (.ofString "base") 621), (.str (.ofString "e") 622)] 0) ::
  (tO #[] 0) ::
  (gS (at_ 47) (.ofString "powered") (.ofString "powered") 0 [] .none .none .none .none none .none .none 0) ::
  (cO #[(.str (.ofString "powered") 617), (.str (.ofString "powered") 618), (.str (.ofString "/claim/cut.py") 619), (.int 246 0), (.int 3 0), (.int 0 0), (.int 0 0), (.int 3 0), (.ref 333), (.bool Bool.true), (.int 181 0), (.ref 334), .none, (.ref 335), (.ref 336), (.ref 337), (.int 623 0), (.int 246 0), (.str (.ofString "/claim/cut.py") 624)]) ::
  (fS (at_ 47) (.ofString "powered") (.ofString "powered") 3 [] .none .none .none (.str (.ofString "vectorcove.numtext") 464) none (.ref 338) .none 0) ::
  (tO #[] 0) ::
  (PySem.Obj.mk .none none (PySem.Data.fields #[]) #[]) ::
  (tO #[(.str (.ofString "text") 629), (.str (.ofString "base") 630), (.str (.ofString "digits") 631), (.str (.ofString "mark") 632), (.str (.ofString "scale") 633), (.str (.ofString "end") 634), (.str (.ofString "before") 635), (.str (.ofString "behind") 636), (.str (.ofString "start") 637), (.str (.ofString "e") 638), (.str (.ofString "ok") 639), (.str (.ofString "n") 640), (.str (.ofString "found") 641)] 0) ::
  (tO #[] 0) ::
  (gS (at_ 48) (.ofString "unsigned_number") (.ofString "unsigned_number") 0 [] .none .none .none .none none .none .none 0) ::
  (cO #[(.str (.ofString "unsigned_number") 626), (.str (.ofString "unsigned_number") 627), (.str (.ofString "/claim/cut.py") 628), (.int 256 0), (.int 1 0), (.int 0 0), (.int 0 0), (.int 3 0), (.ref 340), (.bool Bool.true), (.int 181 0), (.ref 341), .none, (.ref 342), (.ref 343), (.ref 344), (.int 642 0), (.int 256 0), (.str (.ofString "/claim/cut.py") 643)]) ::
  (fS (at_ 48) (.ofString "unsigned_number") (.ofString "unsigned_number") 3 [] .none .none .none (.str (.ofString "vectorcove.numtext") 464) none (.ref 345) .none 0) ::
  (tO #[] 0) ::
  (PySem.Obj.mk .none none (PySem.Data.fields #[]) #[]) ::
  (tO #[(.str (.ofString "text") 648), (.str (.ofString "body") 649), (.str (.ofString "negative") 650), (.str (.ofString "small") 651), (.str (.ofString "found") 652), (.str (.ofString "ok") 653)] 0) ::
  (tO #[] 0) ::
  (gS (at_ 49) (.ofString "parse_number") (.ofString "parse_number") 0 [] .none .none .none .none none .none .none 0) ::
  (cO #[(.str (.ofString "parse_number") 645), (.str (.ofString "parse_number") 646), (.str (.ofString "/claim/cut.py") 647), (.int 288 0), (.int 1 0), (.int 0 0), (.int 0 0), (.int 3 0), (.ref 347), (.bool Bool.true), (.int 181 0), (.ref 348), .none, (.ref 349), (.ref 350), (.ref 351), (.int 654 0), (.int 288 0), (.str (.ofString "/claim/cut.py") 655)]) ::
  (fS (at_ 49) (.ofString "parse_number") (.ofString "parse_number") 3 [] .none .none .none (.str (.ofString "vectorcove.numtext") 464) none (.ref 352) .none 0) ::
  (tO #[] 0) ::
  (PySem.Obj.mk .none none (PySem.Data.fields #[]) #[]) ::
  (tO #[(.str (.ofString "kind") 664), (.str (.ofString "kinds") 665)] 0) ::
  (tO #[] 0) ::
  (gS (at_ 52) (.ofString "kind_order") (.ofString "kind_order") 0 [] .none .none .none .none none .none .none 0) ::
  (cO #[(.str (.ofString "kind_order") 661), (.str (.ofString "kind_order") 662), (.str (.ofString "/claim/cut.py") 663), (.int 307 0), (.int 1 0), (.int 0 0), (.int 0 0), (.int 3 0), (.ref 354), (.bool Bool.true), (.int 181 0), (.ref 355), .none, (.ref 356), (.ref 357), (.ref 358), (.int 666 0), (.int 307 0), (.str (.ofString "/claim/cut.py") 667)]) ::
  (fS (at_ 52) (.ofString "kind_order") (.ofString "kind_order") 3 [] .none .none .none (.str (.ofString "vectorcove.coerce") 657) none (.ref 359) .none 0) ::
  (tO #[] 0) ::
  (PySem.Obj.mk .none none (PySem.Data.fields #[]) #[]) ::
  (tO #[(.str (.ofString "kinds") 672), (.str (.ofString "names") 673), (.str (.ofString "most") 674), (.str (.ofString "kind") 675)] 0) ::
  (tO #[] 0) ::
  (gS (at_ 53) (.ofString "common_kind") (.ofString "common_kind") 0 [] .none .none .none .none none .none .none 0) ::
  (cO #[(.str (.ofString "common_kind") 669), (.str (.ofString "common_kind") 670), (.str (.ofString "/claim/cut.py") 671), (.int 312 0), (.int 1 0), (.int 0 0), (.int 0 0), (.int 3 0), (.ref 361), (.bool Bool.true), (.int 181 0), (.ref 362), .none, (.ref 363), (.ref 364), (.ref 365), (.int 676 0), (.int 312 0), (.str (.ofString "/claim/cut.py") 677)]) ::
  (fS (at_ 53) (.ofString "common_kind") (.ofString "common_kind") 3 [] .none .none .none (.str (.ofString "vectorcove.coerce") 657) none (.ref 366) .none 0) ::
  (tO #[] 0) ::
  (PySem.Obj.mk .none none (PySem.Data.fields #[]) #[]) ::
  (tO #[(.str (.ofString "notes") 682), (.str (.ofString "message") 683)] 0) ::
  (tO #[] 0) ::
  (gS (at_ 54) (.ofString "note") (.ofString "note") 0 [] .none .none .none .none none .none .none 0) ::
  (cO #[(.str (.ofString "note") 679), (.str (.ofString "note") 680), (.str (.ofString "/claim/cut.py") 681), (.int 318 0), (.int 2 0), (.int 0 0), (.int 0 0), (.int 3 0), (.ref 368), (.bool Bool.true), (.int 181 0), (.ref 369), .none, (.ref 370), (.ref 371), (.ref 372), (.int 684 0), (.int 318 0), (.str (.ofString "/claim/cut.py") 685)]) ::
  (fS (at_ 54) (.ofString "note") (.ofString "note") 3 [] .none .none .none (.str (.ofString "vectorcove.coerce") 657) none (.ref 373) .none 0) ::
  (tO #[] 0) ::
  (PySem.Obj.mk .none none (PySem.Data.fields #[]) #[]) ::
  (tO #[(.str (.ofString "s") 690)] 0) ::
  (tO #[] 0) ::
  (gS (at_ 55) (.ofString "as_logical_text") (.ofString "as_logical_text") 0 [] .none .none .none .none none .none .none 0) ::
  (cO #[(.str (.ofString "as_logical_text") 687), (.str (.ofString "as_logical_text") 688), (.str (.ofString "/claim/cut.py") 689), (.int 321 0), (.int 1 0), (.int 0 0), (.int 0 0), (.int 3 0), (.ref 375), (.bool Bool.true), (.int 181 0), (.ref 376), .none, (.ref 377), (.ref 378), (.ref 379), (.int 691 0), (.int 321 0), (.str (.ofString "/claim/cut.py") 692)]) ::
  (fS (at_ 55) (.ofString "as_logical_text") (.ofString "as_logical_text") 3 [] .none .none .none (.str (.ofString "vectorcove.coerce") 657) none (.ref 380) .none 0) ::
  (tO #[] 0) ::
  (PySem.Obj.mk .none none (PySem.Data.fields #[]) #[]) ::
  (tO #[(.str (.ofString "x") 697), (.str (.ofString "notes") 698), (.str (.ofString "found") 699)] 0) ::
  (tO #[] 0) ::
  (gS (at_ 56) (.ofString "double_to_integer") (.ofString "double_to_integer") 0 [] .none .none .none .none none .none .none 0) ::
  (cO #[(.str (.ofString "double_to_integer") 694), (.str (.ofString "double_to_integer") 695), (.str (.ofString "/claim/cut.py") 696), (.int 327 0), (.int 2 0), (.int 0 0), (.int 0 0), (.int 3 0), (.ref 382), (.bool Bool.true), (.int 181 0), (.ref 383), .none, (.ref 384), (.ref 385), (.ref 386), (.int 700 0), (.int 327 0), (.str (.ofString "/claim/cut.py") 701)]) ::
  (fS (at_ 56) (.ofString "double_to_integer") (.ofString "double_to_integer") 3 [] .none .none .none (.str (.ofString "vectorcove.coerce") 657) none (.ref 387) .none 0) ::
  (tO #[] 0) ::
  (PySem.Obj.mk .none none (PySem.Data.fields #[]) #[]) ::
  (tO #[(.str (.ofString "s") 706), (.str (.ofString "notes") 707), (.str (.ofString "ok") 708), (.str (.ofString "found") 709)] 0) ::
  (tO #[] 0) ::
  (gS (at_ 57) (.ofString "text_to_double") (.ofString "text_to_double") 0 [] .none .none .none .none none .none .none 0) ::
  (cO #[(.str (.ofString "text_to_double") 703), (.str (.ofString "text_to_double") 704), (.str (.ofString "/claim/cut.py") 705), (.int 335 0), (.int 2 0), (.int 0 0), (.int 0 0), (.int 3 0), (.ref 389), (.bool Bool.true), (.int 181 0), (.ref 390), .none, (.ref 391), (.ref 392), (.ref 393), (.int 710 0), (.int 335 0), (.str (.ofString "/claim/cut.py") 711)]) ::
  (fS (at_ 57) (.ofString "text_to_double") (.ofString "text_to_double") 3 [] .none .none .none (.str (.ofString "vectorcove.coerce") 657) none (.ref 394) .none 0) ::
  (tO #[] 0) ::
  (PySem.Obj.mk .none none (PySem.Data.fields #[]) #[]) ::
  (tO #[(.str (.ofString "kind") 716), (.str (.ofString "item") 717)] 0) ::
  (tO #[] 0) ::
  (gS (at_ 58) (.ofString "to_logical") (.ofString "to_logical") 0 [] .none .none .none .none none .none .none 0) ::
  (cO #[(.str (.ofString "to_logical") 713), (.str (.ofString "to_logical") 714), (.str (.ofString "/claim/cut.py") 715), (.int 341 0), (.int 2 0), (.int 0 0), (.int 0 0), (.int 3 0), (.ref 396), (.bool Bool.true), (.int 181 0), (.ref 397), .none, (.ref 398), (.ref 399), (.ref 400), (.int 718 0), (.int 341 0), (.str (.ofString "/claim/cut.py") 719)]) ::
  (fS (at_ 58) (.ofString "to_logical") (.ofString "to_logical") 3 [] .none .none .none (.str (.ofString "vectorcove.coerce") 657) none (.ref 401) .none 0) ::
  (tO #[] 0) ::
  (PySem.Obj.mk .none none (PySem.Data.fields #[]) #[]) ::
  (tO #[(.str (.ofString "kind") 724), (.str (.ofString "item") 725), (.str (.ofString "notes") 726)] 0) ::
  (tO #[] 0) ::
  (gS (at_ 59) (.ofString "to_integer") (.ofString "to_integer") 0 [] .none .none .none .none none .none .none 0) ::
  (cO #[(.str (.ofString "to_integer") 721), (.str (.ofString "to_integer") 722), (.str (.ofString "/claim/cut.py") 723), (.int 351 0), (.int 3 0), (.int 0 0), (.int 0 0), (.int 3 0), (.ref 403), (.bool Bool.true), (.int 181 0), (.ref 404), .none, (.ref 405), (.ref 406), (.ref 407), (.int 727 0), (.int 351 0), (.str (.ofString "/claim/cut.py") 728)]) ::
  (fS (at_ 59) (.ofString "to_integer") (.ofString "to_integer") 3 [] .none .none .none (.str (.ofString "vectorcove.coerce") 657) none (.ref 408) .none 0) ::
  (tO #[] 0) ::
  (PySem.Obj.mk .none none (PySem.Data.fields #[]) #[]) ::
  (tO #[(.str (.ofString "kind") 733), (.str (.ofString "item") 734), (.str (.ofString "notes") 735)] 0) ::
  (tO #[] 0) ::
  (gS (at_ 60) (.ofString "to_double") (.ofString "to_double") 0 [] .none .none .none .none none .none .none 0) ::
  (cO #[(.str (.ofString "to_double") 730), (.str (.ofString "to_double") 731), (.str (.ofString "/claim/cut.py") 732), (.int 359 0), (.int 3 0), (.int 0 0), (.int 0 0), (.int 3 0), (.ref 410), (.bool Bool.true), (.int 181 0), (.ref 411), .none, (.ref 412), (.ref 413), (.ref 414), (.int 736 0), (.int 359 0), (.str (.ofString "/claim/cut.py") 737)]) ::
  (fS (at_ 60) (.ofString "to_double") (.ofString "to_double") 3 [] .none .none .none (.str (.ofString "vectorcove.coerce") 657) none (.ref 415) .none 0) ::
  (tO #[] 0) ::
  (PySem.Obj.mk .none none (PySem.Data.fields #[]) #[]) ::
  (tO #[(.str (.ofString "kind") 742), (.str (.ofString "item") 743)] 0) ::
  (tO #[] 0) ::
  (gS (at_ 61) (.ofString "to_text") (.ofString "to_text") 0 [] .none .none .none .none none .none .none 0) ::
  (cO #[(.str (.ofString "to_text") 739), (.str (.ofString "to_text") 740), (.str (.ofString "/claim/cut.py") 741), (.int 365 0), (.int 2 0), (.int 0 0), (.int 0 0), (.int 3 0), (.ref 417), (.bool Bool.true), (.int 181 0), (.ref 418), .none, (.ref 419), (.ref 420), (.ref 421), (.int 744 0), (.int 365 0), (.str (.ofString "/claim/cut.py") 745)]) ::
  (fS (at_ 61) (.ofString "to_text") (.ofString "to_text") 3 [] .none .none .none (.str (.ofString "vectorcove.coerce") 657) none (.ref 422) .none 0) ::
  (tO #[] 0) ::
  (PySem.Obj.mk .none none (PySem.Data.fields #[]) #[]) ::
  (tO #[(.str (.ofString "kind") 750), (.str (.ofString "item") 751), (.str (.ofString "to") 752), (.str (.ofString "notes") 753)] 0) ::
  (tO #[] 0) ::
  (gS (at_ 62) (.ofString "item_as") (.ofString "item_as") 0 [] .none .none .none .none none .none .none 0) ::
  (cO #[(.str (.ofString "item_as") 747), (.str (.ofString "item_as") 748), (.str (.ofString "/claim/cut.py") 749), (.int 373 0), (.int 4 0), (.int 0 0), (.int 0 0), (.int 3 0), (.ref 424), (.bool Bool.true), (.int 181 0), (.ref 425), .none, (.ref 426), (.ref 427), (.ref 428), (.int 754 0), (.int 373 0), (.str (.ofString "/claim/cut.py") 755)]) ::
  (fS (at_ 62) (.ofString "item_as") (.ofString "item_as") 3 [] .none .none .none (.str (.ofString "vectorcove.coerce") 657) none (.ref 429) .none 0) ::
  (tO #[] 0) ::
  (PySem.Obj.mk .none none (PySem.Data.fields #[]) #[]) ::
  (tO #[(.str (.ofString "kind") 760)] 0) ::
  (tO #[] 0) ::
  (gS (at_ 63) (.ofString "is_atomic_kind") (.ofString "is_atomic_kind") 0 [] .none .none .none .none none .none .none 0) ::
  (cO #[(.str (.ofString "is_atomic_kind") 757), (.str (.ofString "is_atomic_kind") 758), (.str (.ofString "/claim/cut.py") 759), (.int 387 0), (.int 1 0), (.int 0 0), (.int 0 0), (.int 3 0), (.ref 431), (.bool Bool.true), (.int 181 0), (.ref 432), .none, (.ref 433), (.ref 434), (.ref 435), (.int 761 0), (.int 387 0), (.str (.ofString "/claim/cut.py") 762)]) ::
  (fS (at_ 63) (.ofString "is_atomic_kind") (.ofString "is_atomic_kind") 3 [] .none .none .none (.str (.ofString "vectorcove.coerce") 657) none (.ref 436) .none 0) ::
  (tO #[] 0) ::
  (PySem.Obj.mk .none none (PySem.Data.fields #[]) #[]) ::
  (tO #[(.str (.ofString "kind") 767), (.str (.ofString "item") 768), (.str (.ofString "to") 769), (.str (.ofString "notes") 770)] 0) ::
  (tO #[] 0) ::
  (gS (at_ 64) (.ofString "list_item_as") (.ofString "list_item_as") 0 [] .none .none .none .none none .none .none 0) ::
  (cO #[(.str (.ofString "list_item_as") 764), (.str (.ofString "list_item_as") 765), (.str (.ofString "/claim/cut.py") 766), (.int 389 0), (.int 4 0), (.int 0 0), (.int 0 0), (.int 3 0), (.ref 438), (.bool Bool.true), (.int 181 0), (.ref 439), .none, (.ref 440), (.ref 441), (.ref 442), (.int 771 0), (.int 389 0), (.str (.ofString "/claim/cut.py") 772)]) ::
  (fS (at_ 64) (.ofString "list_item_as") (.ofString "list_item_as") 3 [] .none .none .none (.str (.ofString "vectorcove.coerce") 657) none (.ref 443) .none 0) ::
  (tO #[] 0) ::
  (PySem.Obj.mk .none none (PySem.Data.fields #[]) #[]) ::
  (tO #[(.str (.ofString "v") 777), (.str (.ofString "kind") 778)] 0) ::
  (tO #[] 0) ::
  (gS (at_ 65) (.ofString "refuse_type") (.ofString "refuse_type") 0 [] .none .none .none .none none .none .none 0) ::
  (cO #[(.str (.ofString "refuse_type") 774), (.str (.ofString "refuse_type") 775), (.str (.ofString "/claim/cut.py") 776), (.int 395 0), (.int 2 0), (.int 0 0), (.int 0 0), (.int 3 0), (.ref 445), (.bool Bool.true), (.int 181 0), (.ref 446), .none, (.ref 447), (.ref 448), (.ref 449), (.int 779 0), (.int 395 0), (.str (.ofString "/claim/cut.py") 780)]) ::
  (fS (at_ 65) (.ofString "refuse_type") (.ofString "refuse_type") 3 [] .none .none .none (.str (.ofString "vectorcove.coerce") 657) none (.ref 450) .none 0) ::
  (tO #[] 0) ::
  (PySem.Obj.mk .none none (PySem.Data.fields #[]) #[]) ::
  (gS (at_ 66) (.ofString "as_vector_kind") (.ofString "as_vector_kind") 0 [] .none .none .none .none none .none .none 0) ::
  (cO #[(.str (.ofString "as_vector_kind") 782), (.str (.ofString "as_vector_kind") 783), (.str (.ofString "/claim/cut.py") 784), (.int 397 0), (.int 2 0), (.int 0 0), (.int 0 0), (.int 3 0), (.ref 452), (.bool Bool.true), (.int 181 0), (.ref 453), .none, .none, .none, (.ref 454), (.int 785 0), (.int 397 0), (.str (.ofString "/claim/cut.py") 786)]) ::
  (fS (at_ 66) (.ofString "as_vector_kind") (.ofString "as_vector_kind") 3 [] .none .none .none (.str (.ofString "vectorcove.coerce") 657) none (.ref 455) .none 0) ::
  (tO #[] 0) ::
  (PySem.Obj.mk .none none (PySem.Data.fields #[]) #[]) ::
  (tO #[(.str (.ofString "v") 791), (.str (.ofString "names") 792)] 0) ::
  (tO #[] 0) ::
  (gS (at_ 67) (.ofString "with_names") (.ofString "with_names") 0 [] .none .none .none .none none .none .none 0) ::
  (cO #[(.str (.ofString "with_names") 788), (.str (.ofString "with_names") 789), (.str (.ofString "/claim/cut.py") 790), (.int 411 0), (.int 2 0), (.int 0 0), (.int 0 0), (.int 3 0), (.ref 457), (.bool Bool.true), (.int 181 0), (.ref 458), .none, (.ref 459), (.ref 460), (.ref 461), (.int 793 0), (.int 411 0), (.str (.ofString "/claim/cut.py") 794)]) ::
  (fS (at_ 67) (.ofString "with_names") (.ofString "with_names") 3 [] .none .none .none (.str (.ofString "vectorcove.coerce") 657) none (.ref 462) .none 0) ::
  (tO #[] 0) ::
  (PySem.Obj.mk .none none (PySem.Data.fields #[]) #[]) ::
  (gS (at_ 68) (.ofString "as_kind") (.ofString "as_kind") 0 [] .none .none .none .none none .none .none 0) ::
  (cO #[(.str (.ofString "as_kind") 796), (.str (.ofString "as_kind") 797), (.str (.ofString "/claim/cut.py") 798), (.int 415 0), (.int 3 0), (.int 0 0), (.int 0 0), (.int 3 0), (.ref 464), (.bool Bool.true), (.int 181 0), (.ref 465), .none, .none, .none, (.ref 466), (.int 799 0), (.int 415 0), (.str (.ofString "/claim/cut.py") 800)]) ::
  (fS (at_ 68) (.ofString "as_kind") (.ofString "as_kind") 3 [] .none .none .none (.str (.ofString "vectorcove.coerce") 657) none (.ref 467) .none 0) ::
  (tO #[] 0) ::
  (PySem.Obj.mk .none none (PySem.Data.fields #[]) #[]) ::
  (tO #[(.str (.ofString "v") 807)] 0) ::
  (tO #[] 0) ::
  (gS (at_ 70) (.ofString "dims") (.ofString "dims") 0 [] .none .none .none .none none .none .none 0) ::
  (cO #[(.str (.ofString "dims") 804), (.str (.ofString "dims") 805), (.str (.ofString "/claim/cut.py") 806), (.int 423 0), (.int 1 0), (.int 0 0), (.int 0 0), (.int 3 0), (.ref 469), (.bool Bool.true), (.int 181 0), (.ref 470), .none, (.ref 471), (.ref 472), (.ref 473), (.int 808 0), (.int 423 0), (.str (.ofString "/claim/cut.py") 809)]) ::
  (fS (at_ 70) (.ofString "dims") (.ofString "dims") 3 [] .none .none .none (.str (.ofString "vectorcove.matrix") 802) none (.ref 474) .none 0) ::
  (tO #[] 0) ::
  (PySem.Obj.mk .none none (PySem.Data.fields #[]) #[]) ::
  (tO #[(.str (.ofString "v") 814), (.str (.ofString "extents") 815)] 0) ::
  (tO #[] 0) ::
  (gS (at_ 71) (.ofString "is_matrix") (.ofString "is_matrix") 0 [] .none .none .none .none none .none .none 0) ::
  (cO #[(.str (.ofString "is_matrix") 811), (.str (.ofString "is_matrix") 812), (.str (.ofString "/claim/cut.py") 813), (.int 427 0), (.int 1 0), (.int 0 0), (.int 0 0), (.int 3 0), (.ref 476), (.bool Bool.true), (.int 181 0), (.ref 477), .none, (.ref 478), (.ref 479), (.ref 480), (.int 816 0), (.int 427 0), (.str (.ofString "/claim/cut.py") 817)]) ::
  (fS (at_ 71) (.ofString "is_matrix") (.ofString "is_matrix") 3 [] .none .none .none (.str (.ofString "vectorcove.matrix") 802) none (.ref 481) .none 0) ::
  (tO #[] 0) ::
  (PySem.Obj.mk .none none (PySem.Data.fields #[]) #[]) ::
  (tO #[(.str (.ofString "v") 822)] 0) ::
  (tO #[] 0) ::
  (gS (at_ 72) (.ofString "shape_of") (.ofString "shape_of") 0 [] .none .none .none .none none .none .none 0) ::
  (cO #[(.str (.ofString "shape_of") 819), (.str (.ofString "shape_of") 820), (.str (.ofString "/claim/cut.py") 821), (.int 430 0), (.int 1 0), (.int 0 0), (.int 0 0), (.int 3 0), (.ref 483), (.bool Bool.true), (.int 181 0), (.ref 484), .none, (.ref 485), (.ref 486), (.ref 487), (.int 823 0), (.int 430 0), (.str (.ofString "/claim/cut.py") 824)]) ::
  (fS (at_ 72) (.ofString "shape_of") (.ofString "shape_of") 3 [] .none .none .none (.str (.ofString "vectorcove.matrix") 802) none (.ref 488) .none 0) ::
  (tO #[] 0) ::
  (PySem.Obj.mk .none none (PySem.Data.fields #[]) #[]) ::
  (tO #[(.str (.ofString "v") 829), (.str (.ofString "axis") 830), (.str (.ofString "names") 831)] 0) ::
  (tO #[] 0) ::
  (gS (at_ 73) (.ofString "axis_names") (.ofString "axis_names") 0 [] .none .none .none .none none .none .none 0) ::
  (cO #[(.str (.ofString "axis_names") 826), (.str (.ofString "axis_names") 827), (.str (.ofString "/claim/cut.py") 828), (.int 434 0), (.int 2 0), (.int 0 0), (.int 0 0), (.int 3 0), (.ref 490), (.bool Bool.true), (.int 181 0), (.ref 491), .none, (.ref 492), (.ref 493), (.ref 494), (.int 832 0), (.int 434 0), (.str (.ofString "/claim/cut.py") 833)]) ::
  (fS (at_ 73) (.ofString "axis_names") (.ofString "axis_names") 3 [] .none .none .none (.str (.ofString "vectorcove.matrix") 802) none (.ref 495) .none 0) ::
  (tO #[] 0) ::
  (PySem.Obj.mk .none none (PySem.Data.fields #[]) #[]) ::
  (tO #[(.str (.ofString "v") 838)] 0) ::
  (tO #[] 0) ::
  (gS (at_ 74) (.ofString "plain_names") (.ofString "plain_names") 0 [] .none .none .none .none none .none .none 0) ::
  (cO #[(.str (.ofString "plain_names") 835), (.str (.ofString "plain_names") 836), (.str (.ofString "/claim/cut.py") 837), (.int 441 0), (.int 1 0), (.int 0 0), (.int 0 0), (.int 3 0), (.ref 497), (.bool Bool.true), (.int 181 0), (.ref 498), .none, (.ref 499), (.ref 500), (.ref 501), (.int 839 0), (.int 441 0), (.str (.ofString "/claim/cut.py") 840)]) ::
  (fS (at_ 74) (.ofString "plain_names") (.ofString "plain_names") 3 [] .none .none .none (.str (.ofString "vectorcove.matrix") 802) none (.ref 502) .none 0) ::
  (tO #[] 0) ::
  (PySem.Obj.mk .none none (PySem.Data.fields #[]) #[]) ::
  (gS (at_ 75) (.ofString "dimnames_list") (.ofString "dimnames_list") 0 [] .none .none .none .none none .none .none 0) ::
  (cO #[(.str (.ofString "dimnames_list") 842), (.str (.ofString "dimnames_list") 843), (.str (.ofString "/claim/cut.py") 844), (.int 445 0), (.int 1 0), (.int 0 0), (.int 0 0), (.int 3 0), (.ref 504), (.bool Bool.true), (.int 181 0), (.ref 505), .none, .none, .none, (.ref 506), (.int 845 0), (.int 445 0), (.str (.ofString "/claim/cut.py") 846)]) ::
  (fS (at_ 75) (.ofString "dimnames_list") (.ofString "dimnames_list") 3 [] .none .none .none (.str (.ofString "vectorcove.matrix") 802) none (.ref 507) .none 0) ::
  (tO #[] 0) ::
  (PySem.Obj.mk .none none (PySem.Data.fields #[]) #[]) ::
  (tO #[(.str (.ofString "kind") 851), (.str (.ofString "items") 852), (.str (.ofString "extents") 853), (.str (.ofString "names") 854), (.str (.ofString "made") 855), (.str (.ofString "dimnames") 856)] 0) ::
  (tO #[] 0) ::
  (gS (at_ 76) (.ofString "new_array") (.ofString "new_array") 0 [] .none .none .none .none none .none .none 0) ::
  (cO #[(.str (.ofString "new_array") 848), (.str (.ofString "new_array") 849), (.str (.ofString "/claim/cut.py") 850), (.int 452 0), (.int 4 0), (.int 0 0), (.int 0 0), (.int 3 0), (.ref 509), (.bool Bool.true), (.int 181 0), (.ref 510), .none, (.ref 511), (.ref 512), (.ref 513), (.int 857 0), (.int 452 0), (.str (.ofString "/claim/cut.py") 858)]) ::
  (fS (at_ 76) (.ofString "new_array") (.ofString "new_array") 3 [] .none .none .none (.str (.ofString "vectorcove.matrix") 802) none (.ref 514) .none 0) ::
  (tO #[] 0) ::
  (PySem.Obj.mk .none none (PySem.Data.fields #[]) #[]) ::
  (tO #[(.str (.ofString "kind") 863), (.str (.ofString "items") 864), (.str (.ofString "extents") 865), (.str (.ofString "row_names") 866), (.str (.ofString "column_names") 867)] 0) ::
  (tO #[] 0) ::
  (gS (at_ 77) (.ofString "new_matrix") (.ofString "new_matrix") 0 [] .none .none .none .none none .none .none 0) ::
  (cO #[(.str (.ofString "new_matrix") 860), (.str (.ofString "new_matrix") 861), (.str (.ofString "/claim/cut.py") 862), (.int 459 0), (.int 5 0), (.int 0 0), (.int 0 0), (.int 3 0), (.ref 516), (.bool Bool.true), (.int 181 0), (.ref 517), .none, (.ref 518), (.ref 519), (.ref 520), (.int 868 0), (.int 459 0), (.str (.ofString "/claim/cut.py") 869)]) ::
  (fS (at_ 77) (.ofString "new_matrix") (.ofString "new_matrix") 3 [] .none .none .none (.str (.ofString "vectorcove.matrix") 802) none (.ref 521) .none 0) ::
  (tO #[] 0) ::
  (PySem.Obj.mk .none none (PySem.Data.fields #[]) #[]) ::
  (tO #[(.str (.ofString "m") 874), (.str (.ofString "place") 875), (.str (.ofString "rows") 876)] 0) ::
  (tO #[] 0) ::
  (gS (at_ 78) (.ofString "column_items") (.ofString "column_items") 0 [] .none .none .none .none none .none .none 0) ::
  (cO #[(.str (.ofString "column_items") 871), (.str (.ofString "column_items") 872), (.str (.ofString "/claim/cut.py") 873), (.int 461 0), (.int 2 0), (.int 0 0), (.int 0 0), (.int 3 0), (.ref 523), (.bool Bool.true), (.int 181 0), (.ref 524), .none, (.ref 525), (.ref 526), (.ref 527), (.int 877 0), (.int 461 0), (.str (.ofString "/claim/cut.py") 878)]) ::
  (fS (at_ 78) (.ofString "column_items") (.ofString "column_items") 3 [] .none .none .none (.str (.ofString "vectorcove.matrix") 802) none (.ref 528) .none 0) ::
  (tO #[] 0) ::
  (PySem.Obj.mk .none none (PySem.Data.fields #[]) #[]) ::
  (tO #[(.str (.ofString "v") 883), (.str (.ofString "extents") 884), (.str (.ofString "rows") 885), (.str (.ofString "columns") 886), (.str (.ofString "items") 887), (.str (.ofString "place") 888), (.str (.ofString "column") 889)] 0) ::
  (tO #[] 0) ::
  (gS (at_ 79) (.ofString "transpose") (.ofString "transpose") 0 [] .none .none .none .none none .none .none 0) ::
  (cO #[(.str (.ofString "transpose") 880), (.str (.ofString "transpose") 881), (.str (.ofString "/claim/cut.py") 882), (.int 464 0), (.int 1 0), (.int 0 0), (.int 0 0), (.int 3 0), (.ref 530), (.bool Bool.true), (.int 181 0), (.ref 531), .none, (.ref 532), (.ref 533), (.ref 534), (.int 890 0), (.int 464 0), (.str (.ofString "/claim/cut.py") 891)]) ::
  (fS (at_ 79) (.ofString "transpose") (.ofString "transpose") 3 [] .none .none .none (.str (.ofString "vectorcove.matrix") 802) none (.ref 535) .none 0) ::
  (tO #[] 0) ::
  (PySem.Obj.mk .none none (PySem.Data.fields #[]) #[]) ::
  (gS (at_ 80) (.ofString "joined_kind") (.ofString "joined_kind") 0 [] .none .none .none .none none .none .none 0) ::
  (cO #[(.str (.ofString "joined_kind") 893), (.str (.ofString "joined_kind") 894), (.str (.ofString "/claim/cut.py") 895), (.int 478 0), (.int 1 0), (.int 0 0), (.int 0 0), (.int 3 0), (.ref 537), (.bool Bool.true), (.int 181 0), (.ref 538), .none, .none, .none, (.ref 539), (.int 896 0), (.int 478 0), (.str (.ofString "/claim/cut.py") 897)]) ::
  (fS (at_ 80) (.ofString "joined_kind") (.ofString "joined_kind") 3 [] .none .none .none (.str (.ofString "vectorcove.matrix") 802) none (.ref 540) .none 0) ::
  (tO #[] 0) ::
  (PySem.Obj.mk .none none (PySem.Data.fields #[]) #[]) ::
  (tO #[(.str (.ofString "parts") 904), (.str (.ofString "word") 905), (.str (.ofString "extent") 906), (.str (.ofString "longest") 907), (.str (.ofString "place") 908), (.str (.ofString "part") 909), (.str (.ofString "rows") 910)] 0) ::
  (tO #[] 0) ::
  (gS (at_ 82) (.ofString "bound_extent") (.ofString "bound_extent") 0 [] .none .none .none .none none .none .none 0) ::
  (cO #[(.str (.ofString "bound_extent") 901), (.str (.ofString "bound_extent") 902), (.str (.ofString "/claim/cut.py") 903), (.int 481 0), (.int 2 0), (.int 0 0), (.int 0 0), (.int 3 0), (.ref 542), (.bool Bool.true), (.int 181 0), (.ref 543), .none, (.ref 544), (.ref 545), (.ref 546), (.int 911 0), (.int 481 0), (.str (.ofString "/claim/cut.py") 912)]) ::
  (fS (at_ 82) (.ofString "bound_extent") (.ofString "bound_extent") 3 [] .none .none .none (.str (.ofString "vectorcove.matbind") 899) none (.ref 547) .none 0) ::
  (tO #[] 0) ::
  (PySem.Obj.mk .none none (PySem.Data.fields #[]) #[]) ::
  (tO #[(.str (.ofString "parts") 917), (.str (.ofString "extent") 918), (.str (.ofString "found") 919), (.str (.ofString "place") 920), (.str (.ofString "part") 921)] 0) ::
  (tO #[] 0) ::
  (gS (at_ 83) (.ofString "kept_places") (.ofString "kept_places") 0 [] .none .none .none .none none .none .none 0) ::
  (cO #[(.str (.ofString "kept_places") 914), (.str (.ofString "kept_places") 915), (.str (.ofString "/claim/cut.py") 916), (.int 496 0), (.int 2 0), (.int 0 0), (.int 0 0), (.int 3 0), (.ref 549), (.bool Bool.true), (.int 181 0), (.ref 550), .none, (.ref 551), (.ref 552), (.ref 553), (.int 922 0), (.int 496 0), (.str (.ofString "/claim/cut.py") 923)]) ::
  (fS (at_ 83) (.ofString "kept_places") (.ofString "kept_places") 3 [] .none .none .none (.str (.ofString "vectorcove.matbind") 899) none (.ref 554) .none 0) ::
  (tO #[] 0) ::
  (PySem.Obj.mk .none none (PySem.Data.fields #[]) #[]) ::
  (tO #[(.str (.ofString "parts") 928), (.str (.ofString "kept") 929), (.str (.ofString "extent") 930), (.str (.ofString "word") 931), (.str (.ofString "notes") 932), (.str (.ofString "place") 933), (.str (.ofString "part") 934), (.str (.ofString "count") 935)] 0) ::
  (tO #[] 0) ::
  (gS (at_ 84) (.ofString "note_recycling") (.ofString "note_recycling") 0 [] .none .none .none .none none .none .none 0) ::
  (cO #[(.str (.ofString "note_recycling") 925), (.str (.ofString "note_recycling") 926), (.str (.ofString "/claim/cut.py") 927), (.int 503 0), (.int 5 0), (.int 0 0), (.int 0 0), (.int 3 0), (.ref 556), (.bool Bool.true), (.int 181 0), (.ref 557), .none, (.ref 558), (.ref 559), (.ref 560), (.int 936 0), (.int 503 0), (.str (.ofString "/claim/cut.py") 937)]) ::
  (fS (at_ 84) (.ofString "note_recycling") (.ofString "note_recycling") 3 [] .none .none .none (.str (.ofString "vectorcove.matbind") 899) none (.ref 561) .none 0) ::
  (tO #[] 0) ::
  (PySem.Obj.mk .none none (PySem.Data.fields #[]) #[]) ::
  (gS (at_ 85) (.ofString "part_columns") (.ofString "part_columns") 0 [] .none .none .none .none none .none .none 0) ::
  (cO #[(.str (.ofString "part_columns") 939), (.str (.ofString "part_columns") 940), (.str (.ofString "/claim/cut.py") 941), (.int 510 0), (.int 2 0), (.int 0 0), (.int 0 0), (.int 3 0), (.ref 563), (.bool Bool.true), (.int 181 0), (.ref 564), .none, .none, .none, (.ref 565), (.int 942 0), (.int 510 0), (.str (.ofString "/claim/cut.py") 943)]) ::
  (fS (at_ 85) (.ofString "part_columns") (.ofString "part_columns") 3 [] .none .none .none (.str (.ofString "vectorcove.matbind") 899) none (.ref 566) .none 0) ::
  (tO #[] 0) ::
  (PySem.Obj.mk .none none (PySem.Data.fields #[]) #[]) ::
  (tO #[(.str (.ofString "part") 948), (.str (.ofString "name") 949), (.str (.ofString "names") 950)] 0) ::
  (tO #[] 0) ::
  (gS (at_ 86) (.ofString "part_heads") (.ofString "part_heads") 0 [] .none .none .none .none none .none .none 0) ::
  (cO #[(.str (.ofString "part_heads") 945), (.str (.ofString "part_heads") 946), (.str (.ofString "/claim/cut.py") 947), (.int 515 0), (.int 2 0), (.int 0 0), (.int 0 0), (.int 3 0), (.ref 568), (.bool Bool.true), (.int 181 0), (.ref 569), .none, (.ref 570), (.ref 571), (.ref 572), (.int 951 0), (.int 515 0), (.str (.ofString "/claim/cut.py") 952)]) ::
  (fS (at_ 86) (.ofString "part_heads") (.ofString "part_heads") 3 [] .none .none .none (.str (.ofString "vectorcove.matbind") 899) none (.ref 573) .none 0) ::
  (tO #[] 0) ::
  (PySem.Obj.mk .none none (PySem.Data.fields #[]) #[]) ::
  (tO #[(.str (.ofString "parts") 957), (.str (.ofString "kept") 958), (.str (.ofString "extent") 959), (.str (.ofString "place") 960), (.str (.ofString "part") 961), (.str (.ofString "names") 962)] 0) ::
  (tO #[] 0) ::
  (gS (at_ 87) (.ofString "bound_row_names") (.ofString "bound_row_names") 0 [] .none .none .none .none none .none .none 0) ::
  (cO #[(.str (.ofString "bound_row_names") 954), (.str (.ofString "bound_row_names") 955), (.str (.ofString "/claim/cut.py") 956), (.int 520 0), (.int 3 0), (.int 0 0), (.int 0 0), (.int 3 0), (.ref 575), (.bool Bool.true), (.int 181 0), (.ref 576), .none, (.ref 577), (.ref 578), (.ref 579), (.int 963 0), (.int 520 0), (.str (.ofString "/claim/cut.py") 964)]) ::
  (fS (at_ 87) (.ofString "bound_row_names") (.ofString "bound_row_names") 3 [] .none .none .none (.str (.ofString "vectorcove.matbind") 899) none (.ref 580) .none 0) ::
  (tO #[] 0) ::
  (PySem.Obj.mk .none none (PySem.Data.fields #[]) #[]) ::
  (gS (at_ 88) (.ofString "bind_by") (.ofString "bind_by") 0 [] .none .none .none .none none .none .none 0) ::
  (cO #[(.str (.ofString "bind_by") 966), (.str (.ofString "bind_by") 967), (.str (.ofString "/claim/cut.py") 968), (.int 527 0), (.int 4 0), (.int 0 0), (.int 0 0), (.int 3 0), (.ref 582), (.bool Bool.true), (.int 181 0), (.ref 583), .none, .none, .none, (.ref 584), (.int 969 0), (.int 527 0), (.str (.ofString "/claim/cut.py") 970)]) ::
  (fS (at_ 88) (.ofString "bind_by") (.ofString "bind_by") 3 [] .none .none .none (.str (.ofString "vectorcove.matbind") 899) none (.ref 585) .none 0) ::
  (tO #[] 0) ::
  (PySem.Obj.mk .none none (PySem.Data.fields #[]) #[]) ::
  (tO #[(.str (.ofString "items") 975), (.str (.ofString "kind") 976), (.str (.ofString "wanted") 977)] 0) ::
  (tO #[] 0) ::
  (gS (at_ 89) (.ofString "column_as") (.ofString "column_as") 0 [] .none .none .none .none none .none .none 0) ::
  (cO #[(.str (.ofString "column_as") 972), (.str (.ofString "column_as") 973), (.str (.ofString "/claim/cut.py") 974), (.int 546 0), (.int 3 0), (.int 0 0), (.int 0 0), (.int 3 0), (.ref 587), (.bool Bool.true), (.int 181 0), (.ref 588), .none, (.ref 589), (.ref 590), (.ref 591), (.int 978 0), (.int 546 0), (.str (.ofString "/claim/cut.py") 979)]) ::
  (fS (at_ 89) (.ofString "column_as") (.ofString "column_as") 3 [] .none .none .none (.str (.ofString "vectorcove.matbind") 899) none (.ref 592) .none 0) ::
  (tO #[] 0) ::
  (PySem.Obj.mk .none none (PySem.Data.fields #[]) #[]) ::
  (tO #[(.str (.ofString "parts") 984), (.str (.ofString "names") 985), (.str (.ofString "notes") 986)] 0) ::
  (tO #[] 0) ::
  (gS (at_ 90) (.ofString "bind_cols") (.ofString "bind_cols") 0 [] .none .none .none .none none .none .none 0) ::
  (cO #[(.str (.ofString "bind_cols") 981), (.str (.ofString "bind_cols") 982), (.str (.ofString "/claim/cut.py") 983), (.int 550 0), (.int 3 0), (.int 0 0), (.int 0 0), (.int 3 0), (.ref 594), (.bool Bool.true), (.int 181 0), (.ref 595), .none, (.ref 596), (.ref 597), (.ref 598), (.int 987 0), (.int 550 0), (.str (.ofString "/claim/cut.py") 988)]) ::
  (fS (at_ 90) (.ofString "bind_cols") (.ofString "bind_cols") 3 [] .none .none .none (.str (.ofString "vectorcove.matbind") 899) none (.ref 599) .none 0) ::
  (tO #[] 0) ::
  (PySem.Obj.mk .none none (PySem.Data.fields #[]) #[]) ::
  (tO #[(.str (.ofString "parts") 993), (.str (.ofString "names") 994), (.str (.ofString "notes") 995), (.str (.ofString "turned") 996), (.str (.ofString "part") 997), (.str (.ofString "made") 998)] 0) ::
  (tO #[] 0) ::
  (gS (at_ 91) (.ofString "bind_rows") (.ofString "bind_rows") 0 [] .none .none .none .none none .none .none 0) ::
  (cO #[(.str (.ofString "bind_rows") 990), (.str (.ofString "bind_rows") 991), (.str (.ofString "/claim/cut.py") 992), (.int 552 0), (.int 3 0), (.int 0 0), (.int 0 0), (.int 3 0), (.ref 601), (.bool Bool.true), (.int 181 0), (.ref 602), .none, (.ref 603), (.ref 604), (.ref 605), (.int 999 0), (.int 552 0), (.str (.ofString "/claim/cut.py") 1000)]) ::
  (fS (at_ 91) (.ofString "bind_rows") (.ofString "bind_rows") 3 [] .none .none .none (.str (.ofString "vectorcove.matbind") 899) none (.ref 606) .none 0) ::
  (tO #[] 0) ::
  (PySem.Obj.mk .none none (PySem.Data.fields #[]) #[]) ::
  (tO #[(.str (.ofString "cask") 1007), (.str (.ofString "ways") 1008), (.str (.ofString "lap") 1009), (.str (.ofString "cell") 1010), (.str (.ofString "mixed") 1011), (.str (.ofString "gone") 1012)] 0) ::
  (tO #[] 0) ::
  (gS (at_ 93) (.ofString "_law_next") (.ofString "_law_next") 0 [] .none .none .none .none none .none .none 0) ::
  (cO #[(.str (.ofString "_law_next") 1004), (.str (.ofString "_law_next") 1005), (.str (.ofString "/claim/cut.py") 1006), (.int 559 0), (.int 2 0), (.int 0 0), (.int 0 0), (.int 3 0), (.ref 608), (.bool Bool.true), (.int 181 0), (.ref 609), .none, (.ref 610), (.ref 611), (.ref 612), (.int 1013 0), (.int 559 0), (.str (.ofString "/claim/cut.py") 1014)]) ::
  (fS (at_ 93) (.ofString "_law_next") (.ofString "_law_next") 3 [] .none .none .none (.str (.ofString "law_ov0081_01") 1002) none (.ref 613) .none 0) ::
  (tO #[] 0) ::
  (PySem.Obj.mk .none none (PySem.Data.fields #[]) #[]) ::
  (tO #[(.str (.ofString "cask") 1019), (.str (.ofString "sort") 1020)] 0) ::
  (tO #[] 0) ::
  (gS (at_ 94) (.ofString "_law_entry") (.ofString "_law_entry") 0 [] .none .none .none .none none .none .none 0) ::
  (cO #[(.str (.ofString "_law_entry") 1016), (.str (.ofString "_law_entry") 1017), (.str (.ofString "/claim/cut.py") 1018), (.int 572 0), (.int 2 0), (.int 0 0), (.int 0 0), (.int 3 0), (.ref 615), (.bool Bool.true), (.int 181 0), (.ref 616), .none, (.ref 617), (.ref 618), (.ref 619), (.int 1021 0), (.int 572 0), (.str (.ofString "/claim/cut.py") 1022)]) ::
  (fS (at_ 94) (.ofString "_law_entry") (.ofString "_law_entry") 3 [] .none .none .none (.str (.ofString "law_ov0081_01") 1002) none (.ref 620) .none 0) ::
  (tO #[] 0) ::
  (PySem.Obj.mk .none none (PySem.Data.fields #[]) #[]) ::
  (gS (at_ 95) (.ofString "_law_block") (.ofString "_law_block") 0 [] .none .none .none .none none .none .none 0) ::
  (cO #[(.str (.ofString "_law_block") 1024), (.str (.ofString "_law_block") 1025), (.str (.ofString "/claim/cut.py") 1026), (.int 580 0), (.int 4 0), (.int 0 0), (.int 0 0), (.int 3 0), (.ref 622), (.bool Bool.true), (.int 181 0), (.ref 623), .none, .none, .none, (.ref 624), (.int 1027 0), (.int 580 0), (.str (.ofString "/claim/cut.py") 1028)]) ::
  (fS (at_ 95) (.ofString "_law_block") (.ofString "_law_block") 3 [] .none .none .none (.str (.ofString "law_ov0081_01") 1002) none (.ref 625) .none 0) ::
  (tO #[] 0) ::
  (PySem.Obj.mk .none none (PySem.Data.fields #[]) #[]) ::
  (tO #[(.str (.ofString "block") 1033), (.str (.ofString "way") 1034)] 0) ::
  (tO #[] 0) ::
  (gS (at_ 96) (.ofString "_law_names") (.ofString "_law_names") 0 [] .none .none .none .none none .none .none 0) ::
  (cO #[(.str (.ofString "_law_names") 1030), (.str (.ofString "_law_names") 1031), (.str (.ofString "/claim/cut.py") 1032), (.int 592 0), (.int 2 0), (.int 0 0), (.int 0 0), (.int 3 0), (.ref 627), (.bool Bool.true), (.int 181 0), (.ref 628), .none, (.ref 629), (.ref 630), (.ref 631), (.int 1035 0), (.int 592 0), (.str (.ofString "/claim/cut.py") 1036)]) ::
  (fS (at_ 96) (.ofString "_law_names") (.ofString "_law_names") 3 [] .none .none .none (.str (.ofString "law_ov0081_01") 1002) none (.ref 632) .none 0) ::
  (tO #[] 0) ::
  (PySem.Obj.mk .none none (PySem.Data.fields #[]) #[]) ::
  (tO #[(.str (.ofString "blocks") 1041), (.str (.ofString "sort") 1042), (.str (.ofString "block") 1043)] 0) ::
  (tO #[] 0) ::
  (gS (at_ 97) (.ofString "_law_widest") (.ofString "_law_widest") 0 [] .none .none .none .none none .none .none 0) ::
  (cO #[(.str (.ofString "_law_widest") 1038), (.str (.ofString "_law_widest") 1039), (.str (.ofString "/claim/cut.py") 1040), (.int 596 0), (.int 1 0), (.int 0 0), (.int 0 0), (.int 3 0), (.ref 634), (.bool Bool.true), (.int 181 0), (.ref 635), .none, (.ref 636), (.ref 637), (.ref 638), (.int 1044 0), (.int 596 0), (.str (.ofString "/claim/cut.py") 1045)]) ::
  (fS (at_ 97) (.ofString "_law_widest") (.ofString "_law_widest") 3 [] .none .none .none (.str (.ofString "law_ov0081_01") 1002) none (.ref 639) .none 0) ::
  (tO #[] 0) ::
  (PySem.Obj.mk .none none (PySem.Data.fields #[]) #[]) ::
  (tO #[(.str (.ofString "held") 1050), (.str (.ofString "sort") 1051), (.str (.ofString "wanted") 1052)] 0) ::
  (tO #[] 0) ::
  (gS (at_ 98) (.ofString "_law_as") (.ofString "_law_as") 0 [] .none .none .none .none none .none .none 0) ::
  (cO #[(.str (.ofString "_law_as") 1047), (.str (.ofString "_law_as") 1048), (.str (.ofString "/claim/cut.py") 1049), (.int 602 0), (.int 3 0), (.int 0 0), (.int 0 0), (.int 3 0), (.ref 641), (.bool Bool.true), (.int 181 0), (.ref 642), .none, (.ref 643), (.ref 644), (.ref 645), (.int 1053 0), (.int 602 0), (.str (.ofString "/claim/cut.py") 1054)]) ::
  (fS (at_ 98) (.ofString "_law_as") (.ofString "_law_as") 3 [] .none .none .none (.str (.ofString "law_ov0081_01") 1002) none (.ref 646) .none 0) ::
  (tO #[] 0) ::
  (PySem.Obj.mk .none none (PySem.Data.fields #[]) #[]) ::
  (tO #[(.str (.ofString "block") 1059)] 0) ::
  (tO #[] 0) ::
  (gS (at_ 99) (.ofString "_law_whole") (.ofString "_law_whole") 0 [] .none .none .none .none none .none .none 0) ::
  (cO #[(.str (.ofString "_law_whole") 1056), (.str (.ofString "_law_whole") 1057), (.str (.ofString "/claim/cut.py") 1058), (.int 606 0), (.int 1 0), (.int 0 0), (.int 0 0), (.int 3 0), (.ref 648), (.bool Bool.true), (.int 181 0), (.ref 649), .none, (.ref 650), (.ref 651), (.ref 652), (.int 1060 0), (.int 606 0), (.str (.ofString "/claim/cut.py") 1061)]) ::
  (fS (at_ 99) (.ofString "_law_whole") (.ofString "_law_whole") 3 [] .none .none .none (.str (.ofString "law_ov0081_01") 1002) none (.ref 653) .none 0) ::
  (tO #[] 0) ::
  (PySem.Obj.mk .none none (PySem.Data.fields #[]) #[]) ::
  (tO #[(.str (.ofString "blocks") 1066), (.str (.ofString "width") 1067), (.str (.ofString "sort") 1068), (.str (.ofString "items") 1069), (.str (.ofString "column") 1070), (.str (.ofString "block") 1071), (.str (.ofString "height") 1072), (.str (.ofString "at") 1073), (.str (.ofString "rows_said") 1074), (.str (.ofString "columns_said") 1075), (.str (.ofString "total") 1076), (.str (.ofString "told") 1077)] 0) ::
  (tO #[] 0) ::
  (gS (at_ 100) (.ofString "_law_due") (.ofString "_law_due") 0 [] .none .none .none .none none .none .none 0) ::
  (cO #[(.str (.ofString "_law_due") 1063), (.str (.ofString "_law_due") 1064), (.str (.ofString "/claim/cut.py") 1065), (.int 608 0), (.int 2 0), (.int 0 0), (.int 0 0), (.int 3 0), (.ref 655), (.bool Bool.true), (.int 181 0), (.ref 656), .none, (.ref 657), (.ref 658), (.ref 659), (.int 1078 0), (.int 608 0), (.str (.ofString "/claim/cut.py") 1079)]) ::
  (fS (at_ 100) (.ofString "_law_due") (.ofString "_law_due") 3 [] .none .none .none (.str (.ofString "law_ov0081_01") 1002) none (.ref 660) .none 0) ::
  (tO #[] 0) ::
  (PySem.Obj.mk .none none (PySem.Data.fields #[]) #[]) ::
  (gS (at_ 101) (.ofString "_law_vector_row") (.ofString "_law_vector_row") 0 [] .none .none .none .none none .none .none 0) ::
  (cO #[(.str (.ofString "_law_vector_row") 1081), (.str (.ofString "_law_vector_row") 1082), (.str (.ofString "/claim/cut.py") 1083), (.int 629 0), (.int 3 0), (.int 0 0), (.int 0 0), (.int 3 0), (.ref 662), (.bool Bool.true), (.int 181 0), (.ref 663), .none, .none, .none, (.ref 664), (.int 1084 0), (.int 629 0), (.str (.ofString "/claim/cut.py") 1085)]) ::
  (fS (at_ 101) (.ofString "_law_vector_row") (.ofString "_law_vector_row") 3 [] .none .none .none (.str (.ofString "law_ov0081_01") 1002) none (.ref 665) .none 0) ::
  (tO #[] 0) ::
  (PySem.Obj.mk .none none (PySem.Data.fields #[]) #[]) ::
  (tO #[(.str (.ofString "block") 1090), (.str (.ofString "width") 1091), (.str (.ofString "other") 1092), (.str (.ofString "refusal") 1093)] 0) ::
  (tO #[] 0) ::
  (gS (at_ 102) (.ofString "_law_refused") (.ofString "_law_refused") 0 [] .none .none .none .none none .none .none 0) ::
  (cO #[(.str (.ofString "_law_refused") 1087), (.str (.ofString "_law_refused") 1088), (.str (.ofString "/claim/cut.py") 1089), (.int 646 0), (.int 2 0), (.int 0 0), (.int 0 0), (.int 3 0), (.ref 667), (.bool Bool.true), (.int 181 0), (.ref 668), .none, (.ref 669), (.ref 670), (.ref 671), (.int 1094 0), (.int 646 0), (.str (.ofString "/claim/cut.py") 1095)]) ::
  (fS (at_ 102) (.ofString "_law_refused") (.ofString "_law_refused") 3 [] .none .none .none (.str (.ofString "law_ov0081_01") 1002) none (.ref 672) .none 0) ::
  (tO #[] 0) ::
  (PySem.Obj.mk .none none (PySem.Data.fields #[]) #[]) ::
  (gS (at_ 103) (.ofString "law") (.ofString "law") 0 [] .none .none .none .none none .none .none 0) ::
  (cO #[(.str (.ofString "law") 1097), (.str (.ofString "law") 1098), (.str (.ofString "/claim/cut.py") 1099), (.int 653 0), (.int 1 0), (.int 0 0), (.int 0 0), (.int 3 0), (.ref 674), (.bool Bool.true), (.int 181 0), (.ref 675), .none, .none, .none, (.ref 676), (.int 1100 0), (.int 653 0), (.str (.ofString "/claim/cut.py") 1101)]) ::
  (fS (at_ 103) (.ofString "law") (.ofString "law") 3 [] .none .none .none (.str (.ofString "law_ov0081_01") 1002) none (.ref 677) .none 0) :: []
def setO (l : List Obj) (n : Nat) (vs : List (Nat × Obj)) : List Obj := vs.foldl (fun l p => l.set p.1 p.2) (l.take n)
def treeO (l : List Obj) : BT := (l.foldl (fun (q : BT × Nat) o => (q.1.ins q.2 o, q.2 + 1)) (.nil, 0)).1
noncomputable def HA (P : Params) : Heap := ⟨Array.mk (setO (objs P) 15 [(2, boot_o_2 P), (3, boot_o_3 P), (12, fd 0)]), lf⟩
def kA : Nat := 187
noncomputable def TB (P : Params) : BT := treeO (setO (objs P) 15 [(2, boot_o_2 P), (3, boot_o_3 P), (12, fd 0)])
noncomputable def SB (w : World) (os : OsState) : SharedT := ⟨TB w.params, 15, lf, Array.mk [], (PySem.Drawn.mk 0 0 0 0), 187, os⟩
noncomputable def T1 (P : Params) : BT := treeO (setO (objs P) 104 [(3, gd P "vectorcove.values" 241 13 14), (12, fd 15)])
noncomputable def S1 (w : World) (os : OsState) : SharedT := ⟨T1 w.params, 104, lf, Array.mk [], (PySem.Drawn.mk 0 0 0 0), 314, os⟩
noncomputable def T2 (P : Params) : BT := treeO (setO (objs P) 208 [(3, gd P "vectorcove.rational" 380 31 32), (12, fd 60)])
noncomputable def S2 (w : World) (os : OsState) : SharedT := ⟨T2 w.params, 208, lf, Array.mk [], (PySem.Drawn.mk 0 0 0 0), 436, os⟩
noncomputable def T3 (P : Params) : BT := treeO (setO (objs P) 312 [(3, gd P "vectorcove.numtext" 464 47 48), (12, fd 105)])
noncomputable def S3 (w : World) (os : OsState) : SharedT := ⟨T3 w.params, 312, lf, Array.mk [], (PySem.Drawn.mk 0 0 0 0), 589, os⟩
noncomputable def T4 (P : Params) : BT := treeO (setO (objs P) 417 [(3, gd P "vectorcove.coerce" 657 63 64), (12, fd 150)])
noncomputable def S4 (w : World) (os : OsState) : SharedT := ⟨T4 w.params, 417, lf, Array.mk [], (PySem.Drawn.mk 0 0 0 0), 739, os⟩
noncomputable def T5 (P : Params) : BT := treeO (setO (objs P) 523 [(3, gd P "vectorcove.matrix" 802 79 80), (12, fd 198)])
noncomputable def S5 (w : World) (os : OsState) : SharedT := ⟨T5 w.params, 523, lf, Array.mk [], (PySem.Drawn.mk 0 0 0 0), 871, os⟩
noncomputable def T6 (P : Params) : BT := treeO (setO (objs P) 622 [(3, gd P "law_ov0081_01" 1002 94 95), (12, fd 243)])
noncomputable def S6 (w : World) (os : OsState) : SharedT := ⟨T6 w.params, 622, lf, Array.mk [], (PySem.Drawn.mk 0 0 0 0), 1024, os⟩
noncomputable def T7 (P : Params) : BT := treeO (setO (objs P) 679 [])
noncomputable def S7 (w : World) (os : OsState) : SharedT := ⟨T7 w.params, 679, lf, Array.mk [], (PySem.Drawn.mk 0 0 0 0), 1103, os⟩
noncomputable def HF (P : Params) : Heap := ⟨Array.mk (setO (objs P) 679 []), lf⟩
def kF : Nat := 1103
abbrev pw : Program := PySem.Challenge.pw_ov0081_01
noncomputable def env39 : Env := { scope := pw.main.scope, locals := mainNs, globals := mainNs, cells := [], code := .ref 13, frame := some 14 }
noncomputable abbrev cE : Code := .body (behindTheImports pw) env39
abbrev B39 : List Frame := [topFrame ⟨0, 0, 0, 0⟩]
abbrev ann39 : Option Value := some (.ref 6)
noncomputable def segS (a n : Nat) : List Stmt := (pw.main.body.drop a).take n
abbrev d39 : Drawn := .mk 0 0 0 0
end Hp
end
section
namespace Hp
theorem pre39 (w : World) : (fun os => topGo treeTable pw w 11 ann39 12 ⟨boot_heap w.params, Array.mk [], boot_drawn, boot_toks, os⟩ (topStub pw)) = fun os => some (⟨HA w.params, Array.mk [], d39, kA, os⟩, ⟨denote treeTable cE, cE, ⟨0, 0, 0, 0⟩, B39⟩) := by kernel_rfl
theorem block39 (w : World) : (fun os => segRun treeTable pw w 11 ann39 1 1 ⟨HA w.params, Array.mk [], d39, kA, os⟩ (blockOf (behindTheImports pw) env39 cE ⟨0, 0, 0, 0⟩ B39)) = fun os => some (.next, (SB w os).abs, cE, ⟨0, 0, 0, 0⟩) := by kernel_rfl
theorem seg1 (w : World) : (fun os => segRunT treeTable pw w 11 ann39 1 971 (SB w os) (piecesOf (segS 0 7) env39 cE ⟨0, 0, 0, 0⟩ B39)) = fun os => some (.next, S1 w os, cE, (PySem.Pos.mk 17 0 27 16)) := by kernel_rfl
theorem seg2 (w : World) : (fun os => segRunT treeTable pw w 11 ann39 1 490 (S1 w os) (piecesOf (segS 7 20) env39 cE (PySem.Pos.mk 17 0 27 16) B39)) = fun os => some (.next, S2 w os, cE, (PySem.Pos.mk 106 0 109 27)) := by kernel_rfl
theorem seg3 (w : World) : (fun os => segRunT treeTable pw w 11 ann39 1 497 (S2 w os) (piecesOf (segS 27 17) env39 cE (PySem.Pos.mk 106 0 109 27) B39)) = fun os => some (.next, S3 w os, cE, (PySem.Pos.mk 225 0 226 39)) := by kernel_rfl
theorem seg4 (w : World) : (fun os => segRunT treeTable pw w 11 ann39 1 495 (S3 w os) (piecesOf (segS 44 17) env39 cE (PySem.Pos.mk 225 0 226 39) B39)) = fun os => some (.next, S4 w os, cE, (PySem.Pos.mk 359 0 364 25)) := by kernel_rfl
theorem seg5 (w : World) : (fun os => segRunT treeTable pw w 11 ann39 1 486 (S4 w os) (piecesOf (segS 61 17) env39 cE (PySem.Pos.mk 359 0 364 25) B39)) = fun os => some (.next, S5 w os, cE, (PySem.Pos.mk 459 0 460 69)) := by kernel_rfl
theorem seg6 (w : World) : (fun os => segRunT treeTable pw w 11 ann39 1 492 (S5 w os) (piecesOf (segS 78 17) env39 cE (PySem.Pos.mk 459 0 460 69) B39)) = fun os => some (.next, S6 w os, cE, (PySem.Pos.mk 572 0 579 42)) := by kernel_rfl
theorem seg7 (w : World) : (fun os => segRunT treeTable pw w 11 ann39 1 272 (S6 w os) (piecesOf (segS 95 9) env39 cE (PySem.Pos.mk 572 0 579 42) B39)) = fun os => some (.next, S7 w os, cE, (PySem.Pos.mk 653 0 686 85)) := by kernel_rfl
theorem fin39 (w : World) : (fun os => topRun treeTable pw w 11 ann39 2 (S7 w os).abs ⟨doneF .next, cE, (PySem.Pos.mk 653 0 686 85), B39⟩) = fun os => some ⟨HF w.params, Array.mk [], d39, kF, os⟩ := by kernel_rfl
theorem app39 : behindTheImports pw = segS 0 7 ++ (segS 7 20 ++ (segS 27 17 ++ (segS 44 17 ++ (segS 61 17 ++ (segS 78 17 ++ (segS 95 9 ++ [])))))) := by kernel_rfl
theorem run39 (w : World) (os : OsState) : topRun treeTable pw w 11 ann39 (12 + (1 + (971 + (490 + (497 + (495 + (486 + (492 + (272 + 2))))))))) ⟨boot_heap w.params, Array.mk [], boot_drawn, boot_toks, os⟩ (topStub pw) = some ⟨HF w.params, Array.mk [], d39, kF, os⟩ := by
  have hA := congrFun (pre39 w) os
  have hB := congrFun (block39 w) os
  have h1 := congrFun (seg1 w) os
  have h2 := congrFun (seg2 w) os
  have h3 := congrFun (seg3 w) os
  have h4 := congrFun (seg4 w) os
  have h5 := congrFun (seg5 w) os
  have h6 := congrFun (seg6 w) os
  have h7 := congrFun (seg7 w) os
  have hF := congrFun (fin39 w) os
  refine go_top hA (piece_block hB ?_)
  have e : restOf (behindTheImports pw) env39 cE ⟨0, 0, 0, 0⟩ B39 = restOf (segS 0 7 ++ (segS 7 20 ++ (segS 27 17 ++ (segS 44 17 ++ (segS 61 17 ++ (segS 78 17 ++ (segS 95 9 ++ []))))))) env39 cE ⟨0, 0, 0, 0⟩ B39 := congrArg (fun l => restOf l env39 cE ⟨0, 0, 0, 0⟩ B39) app39
  rw [e]
  exact piece_app (l := segS 0 7) (rest := (segS 7 20 ++ (segS 27 17 ++ (segS 44 17 ++ (segS 61 17 ++ (segS 78 17 ++ (segS 95 9 ++ []))))))) (segRun_of h1)
    (piece_app (l := segS 7 20) (rest := (segS 27 17 ++ (segS 44 17 ++ (segS 61 17 ++ (segS 78 17 ++ (segS 95 9 ++ [])))))) (segRun_of h2)
    (piece_app (l := segS 27 17) (rest := (segS 44 17 ++ (segS 61 17 ++ (segS 78 17 ++ (segS 95 9 ++ []))))) (segRun_of h3)
    (piece_app (l := segS 44 17) (rest := (segS 61 17 ++ (segS 78 17 ++ (segS 95 9 ++ [])))) (segRun_of h4)
    (piece_app (l := segS 61 17) (rest := (segS 78 17 ++ (segS 95 9 ++ []))) (segRun_of h5)
    (piece_app (l := segS 78 17) (rest := (segS 95 9 ++ [])) (segRun_of h6)
    (piece_app (l := segS 95 9) (rest := []) (segRun_of h7)
    (piece_nil hF)))))))
end Hp
noncomputable def q39 : Program := { PySem.Challenge.pw_ov0081_01 with main := { PySem.Challenge.pw_ov0081_01.main with body := [at_ 103] } }
noncomputable def loose39 : List Str := [.ofString "_wall", .ofString "CoveError", .ofString "Refusal", .ofString "Null", .ofString "Vector", .ofString "integer", .ofString "character", .ofString "length", .ofString "is_atomic", .ofString "share", .ofString "get_attr", .ofString "names_of", .ofString "dim_of", .ofString "dimnames_of", .ofString "NAN", .ofString "INF", .ofString "ZERO", .ofString "gcd", .ofString "make", .ofString "from_int", .ofString "is_na", .ofString "is_finite", .ofString "neg", .ofString "to_whole", .ofString "nearest_whole", .ofString "exponent", .ofString "MOST_EXPONENT", .ofString "whole_text", .ofString "special_text", .ofString "scaled", .ofString "significant", .ofString "without_tail", .ofString "scientific_text", .ofString "fixed_text", .ofString "measures", .ofString "chosen_form", .ofString "formed", .ofString "common_texts", .ofString "number_text", .ofString "digits_value", .ofString "digit_run", .ofString "exponent_value", .ofString "powered", .ofString "unsigned_number", .ofString "parse_number", .ofString "MOST_INTEGER", .ofString "kind_order", .ofString "common_kind", .ofString "note", .ofString "as_logical_text", .ofString "double_to_integer", .ofString "text_to_double", .ofString "to_logical", .ofString "to_integer", .ofString "to_double", .ofString "to_text", .ofString "item_as", .ofString "is_atomic_kind", .ofString "list_item_as", .ofString "refuse_type", .ofString "as_vector_kind", .ofString "with_names", .ofString "as_kind", .ofString "dims", .ofString "is_matrix", .ofString "shape_of", .ofString "axis_names", .ofString "plain_names", .ofString "dimnames_list", .ofString "new_array", .ofString "new_matrix", .ofString "column_items", .ofString "transpose", .ofString "joined_kind", .ofString "bound_extent", .ofString "kept_places", .ofString "note_recycling", .ofString "part_columns", .ofString "part_heads", .ofString "bound_row_names", .ofString "bind_by", .ofString "column_as", .ofString "bind_cols", .ofString "bind_rows", .ofString "_law_next", .ofString "_law_entry", .ofString "_law_block", .ofString "_law_names", .ofString "_law_widest", .ofString "_law_as", .ofString "_law_whole", .ofString "_law_due", .ofString "_law_vector_row", .ofString "_law_refused"]
noncomputable def H39 : Hook := kHook hd.heap_39 keys39 keys39_ok
noncomputable abbrev Xt39 : Shared → Bool := fun s => xlAt q39 [] s && recOk (RowW.records PySem.Challenge.rw_ov0081_01.row.toRowW) s
namespace Hp
theorem size39 (w : World) : ((boot_heap w.params).isNs mainGlobals && (Array.mk [] : Array GenState).size == 0, (boot_heap w.params).objs.size, (boot_heap w.params).nsMap mainGlobals "__annotations__") = (true, 11, ann39) := by kernel_rfl
theorem look1 (w : World) (os : OsState) : (staticsOk (importedModules pw.main.body) (boot_heap w.params) (HF w.params) && namesBound pw (HF w.params) && gensDone ⟨HF w.params, Array.mk [], d39, kF, os⟩ && laidKept (boot_heap w.params) (HF w.params)) = true := by kernel_rfl
theorem look2 (w : World) (os : OsState) : openSeen q39 loose39 (importedModules pw.main.body) Xt39 true ⟨HF w.params, Array.mk [], d39, kF, os⟩ = openGood q39 loose39 := by kernel_rfl
theorem look3 (w : World) (os : OsState) : H39.obs ⟨HF w.params, Array.mk [], d39, kF, os⟩ = H39.val w := by kernel_rfl
theorem open39 : ∀ w : World, (fencedOpening treeTable pw w 7518).map (fun s => (s.heap, s.gens, s.drawn, s.toks)) = some (boot_heap w.params, Array.mk [], boot_drawn, boot_toks) := boot_open (p := pw) (N := 7518) (by kernel_rfl) (by kernel_rfl) (fun s => by kernel_rfl)
end Hp
theorem left39 : LeftO PySem.Challenge.pw_ov0081_01 q39 loose39 Xt39 H39.obs H39.val 7518 :=
  LeftO.of_pieces (H₀ := boot_heap) (H₁ := Hp.HF) Hp.open39 Hp.size39 Hp.run39 (by kernel_rfl) (fun w => funext fun os => looks_pair (Hp.look1 w os) (looks_pair (Hp.look2 w os) (Hp.look3 w os)))
end
section
namespace Hp
theorem body39 : PySem.Challenge.rw_ov0081_01.row.prog.main.body = segS 0 20 ++ (segS 20 20 ++ (segS 40 20 ++ (segS 60 20 ++ segS 80 24))) := by kernel_rfl
theorem nr_app (lk : Look) (b : List Stmt) : ∀ a : List Stmt, noRoadLSs lk (a ++ b) = (noRoadLSs lk a && noRoadLSs lk b)
  | [] => rfl
  | s :: r => by
    show (noRoadLS lk s && noRoadLSs lk (r ++ b)) = ((noRoadLS lk s && noRoadLSs lk r) && noRoadLSs lk b)
    rw [nr_app lk b r, Bool.and_assoc]
theorem nr_parts {lk : Look} {l a b c d e : List Stmt} (q : l = a ++ (b ++ (c ++ (d ++ e)))) (h0 : noRoadLSs lk a = true) (h1 : noRoadLSs lk b = true) (h2 : noRoadLSs lk c = true) (h3 : noRoadLSs lk d = true) (h4 : noRoadLSs lk e = true) : noRoadLSs lk l = true := by
  rw [q, nr_app, nr_app, nr_app, nr_app, h0, h1, h2, h3, h4]; rfl
open PySem.TablesWhole in
theorem ws_app {A : Alg Bool} (hb : A.both = fun a b => a && b) (hu : A.unit = true) (top : Scope) (cx : TablesWhole.Ctx) (sc : Scope) (b : List Stmt) : ∀ a : List Stmt, wSs A top cx sc (a ++ b) = (wSs A top cx sc a && wSs A top cx sc b)
  | [] => by
    show wSs A top cx sc b = (A.unit && wSs A top cx sc b)
    rw [hu]; rfl
  | s :: r => by
    show A.both (wS A top cx sc s) (wSs A top cx sc (r ++ b)) = (A.both (wS A top cx sc s) (wSs A top cx sc r) && wSs A top cx sc b)
    rw [hb, ws_app hb hu top cx sc b r]
    show (wS A top cx sc s && (wSs A top cx sc r && wSs A top cx sc b)) = ((wS A top cx sc s && wSs A top cx sc r) && wSs A top cx sc b)
    rw [Bool.and_assoc]
open PySem.TablesWhole in
theorem wm_parts {A : Alg Bool} {m : Module} {a b c d e : List Stmt} (hb : A.both = fun a b => a && b) (hu : A.unit = true) (h : ∀ s, A.enter s = true) (hc : A.check "no name twice in a table, but a class's lawful pair" m.scope ("(the table)" : Str) (noTwice m.scope) = true)
    (ht : wSs gather m.scope ⟨m.scope, [], [], [], none⟩ m.scope m.body = []) (q : m.body = a ++ (b ++ (c ++ (d ++ e))))
    (h0 : wSs A m.scope ⟨m.scope, [], [], [], none⟩ m.scope a = true) (h1 : wSs A m.scope ⟨m.scope, [], [], [], none⟩ m.scope b = true) (h2 : wSs A m.scope ⟨m.scope, [], [], [], none⟩ m.scope c = true) (h3 : wSs A m.scope ⟨m.scope, [], [], [], none⟩ m.scope d = true) (h4 : wSs A m.scope ⟨m.scope, [], [], [], none⟩ m.scope e = true) : wModule A m = true := by
  have w : wModule A m = A.both (A.enter m.scope) (A.both (A.check "no name twice in a table, but a class's lawful pair" m.scope ("(the table)" : Str) (noTwice m.scope)) (A.both (wSs A m.scope ⟨m.scope, [], wSs gather m.scope ⟨m.scope, [], [], [], none⟩ m.scope m.body, [], none⟩ m.scope m.body) A.unit)) := rfl
  rw [w, ht, h, hc, hu, hb, q, ws_app hb hu, ws_app hb hu, ws_app hb hu, ws_app hb hu, h0, h1, h2, h3, h4]
  rfl
theorem nm_of {p : Program} {ok : Scope → Str → Bool} (h : TablesWhole.wModule ⟨fun sc n _ => ok sc n, fun _ _ _ _ => true, fun _ => true, true, false, fun a b => a && b⟩ p.main = true) : namesMeet p p.main.body ok = true := h
theorem tabs_of {p : Program} (h1 : p.modules = []) (h2 : p.parses = []) (h3 : p.harvested = []) (h : TablesWhole.wModule TablesWhole.holds p.main = true) : p.tablesWhole = true := by
  have e : p.tablesWhole = (TablesWhole.wModule TablesWhole.holds p.main && (TablesWhole.holds.all (p.modules.map fun (_, _, m) => TablesWhole.wModule TablesWhole.holds m) && (TablesWhole.holds.all (p.parses.map (TablesWhole.wParse TablesWhole.holds)) && (TablesWhole.holds.all (p.harvested.map (TablesWhole.wParse TablesWhole.holds)) && true)))) := rfl
  rw [e, h, h1, h2, h3]; rfl
open PySem.TablesWhole in
theorem told39 : wSs gather PySem.Challenge.rw_ov0081_01.row.prog.main.scope ⟨PySem.Challenge.rw_ov0081_01.row.prog.main.scope, [], [], [], none⟩ PySem.Challenge.rw_ov0081_01.row.prog.main.scope PySem.Challenge.rw_ov0081_01.row.prog.main.body = [] := by decide +kernel
theorem tabs39 : PySem.Challenge.rw_ov0081_01.row.prog.tablesWhole = true := by
  with_reducible refine tabs_of ?_ ?_ ?_ (wm_parts (a := segS 0 20) (b := segS 20 20) (c := segS 40 20) (d := segS 60 20) (e := segS 80 24) ?_ ?_ ?_ ?_ told39 body39 ?_ ?_ ?_ ?_ ?_)
  iterate 3 kernel_rfl
  iterate 2 kernel_rfl
  · exact fun _ => rfl
  all_goals decide +kernel
theorem res39 : namesResolve PySem.Challenge.rw_ov0081_01.row.prog = true := by
  delta namesResolve
  with_reducible refine wm_parts (a := segS 0 20) (b := segS 20 20) (c := segS 40 20) (d := segS 60 20) (e := segS 80 24) ?_ ?_ ?_ ?_ told39 body39 ?_ ?_ ?_ ?_ ?_
  iterate 2 kernel_rfl
  · exact fun _ => rfl
  · kernel_rfl
  all_goals decide +kernel
theorem meet39 : namesMeet PySem.Challenge.rw_ov0081_01.row.prog PySem.Challenge.rw_ov0081_01.row.prog.main.body (fun _ n => attrL n) = true := by
  with_reducible refine nm_of (wm_parts (a := segS 0 20) (b := segS 20 20) (c := segS 40 20) (d := segS 60 20) (e := segS 80 24) ?_ ?_ ?_ ?_ told39 body39 ?_ ?_ ?_ ?_ ?_)
  iterate 2 kernel_rfl
  · exact fun _ => rfl
  · kernel_rfl
  all_goals decide +kernel
theorem vars39 : readsOut PySem.Challenge.rw_ov0081_01.row.prog PySem.Challenge.rw_ov0081_01.row.prog.main.body (.ofString "vars") = false := by decide +kernel
theorem dir39 : readsOut PySem.Challenge.rw_ov0081_01.row.prog PySem.Challenge.rw_ov0081_01.row.prog.main.body (.ofString "dir") = false := by decide +kernel
theorem locals39 : readsOut PySem.Challenge.rw_ov0081_01.row.prog PySem.Challenge.rw_ov0081_01.row.prog.main.body (.ofString "locals") = false := by decide +kernel
theorem strict39 : (!(importedModules PySem.Challenge.rw_ov0081_01.row.prog.main.body).all cThrough.contains) = false := by decide +kernel
theorem none3 {f : Str → Bool} {a b c : Str} (x : f a = false) (y : f b = false) (z : f c = false) : [a, b, c].filter f = [] := by
  rw [List.filter_cons_of_neg (by rw [x]; exact Bool.false_ne_true), List.filter_cons_of_neg (by rw [y]; exact Bool.false_ne_true), List.filter_cons_of_neg (by rw [z]; exact Bool.false_ne_true)]; rfl
theorem road39 : noRoadLSs { strict := !(importedModules PySem.Challenge.rw_ov0081_01.row.prog.main.body).all cThrough.contains, foot := none, bare := (["vars", "dir", "locals"] : List Str).filter (readsOut PySem.Challenge.rw_ov0081_01.row.prog PySem.Challenge.rw_ov0081_01.row.prog.main.body) } PySem.Challenge.rw_ov0081_01.row.prog.main.body = true := by
  rw [none3 vars39 dir39 locals39, strict39]
  with_reducible refine nr_parts body39 ?_ ?_ ?_ ?_ ?_
  all_goals decide +kernel
end Hp
theorem well39 : PySem.Challenge.rw_ov0081_01.wellSaid = true := by
  unfold OpenLaw.wellSaid OpenRow.wellSaid OpenRow.partSaid looksOpen
  repeat' (with_reducible refine look_both ?_ ?_)
  all_goals first
    | with_reducible exact Hp.res39
    | with_reducible exact Hp.meet39
    | with_reducible exact Hp.road39
    | decide +kernel
theorem ok39 : (chainsOk q39 && opensWell PySem.Challenge.rw_ov0081_01.row.prog && (frees PySem.Challenge.rw_ov0081_01.row.toRowW && PySem.Challenge.rw_ov0081_01.row.within.isEmpty)) = true := by kernel_rfl
theorem bare39 : PySem.Challenge.rw_ov0081_01.row.prog.bare := ⟨rfl, rfl, rfl, rfl, rfl, Hp.tabs39⟩
theorem wit39 : PySem.Challenge.rw_ov0081_01.row.toRowW.promised := by w_witness2
theorem hd_of {d : DefRec} {kwd : List (Str × PySem.Expr)} (e1 : defOf q39 PySem.Challenge.rw_ov0081_01.row.name = some (d, kwd)) (e2 : PySem.Challenge.rw_ov0081_01.row.prog.theDef PySem.Challenge.rw_ov0081_01.row.name = some (d.params, d.body, d.scope))
    (e3 : kwWritten? d.params.kwonlyargs d.params.kw_defaults = some kwd)
    (walk : WalkO q39 loose39 (XL q39 []) (kHook hd.heap_39 keys39 keys39_ok).says PySem.Challenge.rw_ov0081_01.row.toRowW d kwd fun f vs => PySem.call f vs) : PySem.Challenge.rw_ov0081_01.Holds :=
  holds_law well39 fun said => holds_open (r := PySem.Challenge.rw_ov0081_01.row) (q := q39) (loose := loose39) (Xt := Xt39) (XP := XL q39 []) (Yf := H39.obs) (Ya := H39.val) (YP := H39.says) (N := 7518) left39 H39.of H39.keeps
    (fun s e => xl_of s (Bool.and_eq_true_iff.mp e).1) XL.keeps e1 e2 e3 (fun s e => recFacts_of (Bool.and_eq_true_iff.mp e).2) rfl said ok39 bare39 wit39 walk
end
section
abbrev Led := List (Addr × Obj)
abbrev Map := Str → Option Value
abbrev PG : Program := PySem.Challenge.rw_ov0081_01.row.prog

noncomputable def upd (m : Map) (x : Str) (v : Value) : Map := fun y => if y = x then some v else m y

structure Act where
  w : World
  A : Around
  A₀ : Around
  base : Heap
  outer : List Env
  h₀ : Heap
  L : Addr
  env : Env
  fenv : Env

noncomputable def TopAny (h : Heap) : Prop := ∃ (p : Program) (loose : List Str) (mean : ExcName → Option Value) (mg mb : Map), Top p loose mean mg mb h
theorem TopAny.keeps {h h' : Heap} (T : TopAny h) (k : ∀ b o, h.get? b = some o → h'.get? b = some o) : TopAny h' := by
  obtain ⟨p, l, me, mg, mb, T⟩ := T
  exact ⟨p, l, me, mg, mb, T.keeps k⟩

structure Act.Ok (a : Act) (n : Nat) : Prop where
  X : (hd.heap_39 a.w.params).In a.h₀
  T : TopAny a.h₀
  XB : (hd.heap_39 a.w.params).In a.base
  TB : TopAny a.base
  B : Below a.A₀ a.base a.outer a.h₀
  hA : a.A.frames = some (a.fenv :: a.outer)
  hf : a.fenv.frame = some a.L
  hk : a.fenv.scope.kind = .function
  hh : a.A.handled = none
  hd : a.A.depth + 2 * n ≤ 900
  hu : a.A.units + 8 * n ≤ 9000
  ek : a.env.scope.kind = .function
  eg : a.env.globals = mainGlobals
  eb : a.env.builtins = builtinsNs

structure Holds (a : Act) (mf : Map) (H : Led) (m : Map) : Prop where
  loc : ∀ x v, m x = some v → a.env.kindOf x = some .local → (a.env.locals = a.L ∧ mf x = some v) ∨ (∃ oC mc, (a.env.locals, oC) ∈ H ∧ LCg.NsObj oC mc ∧ mc x = some v)
  cell : ∀ x, a.env.kindOf x = some .cell → ∃ c o v₀, a.env.cells.lookup x = some c ∧ (c, o) ∈ H ∧ o.data = .cell v₀ ∧ ∀ v, m x = some v → v₀ = some v

structure Sit (a : Act) (mf : Map) (H M I : Led) (s : Shared) : Prop where
  F : Fr a.h₀ a.L s.heap mf
  N : News a.h₀ a.L s.heap (H ++ (M ++ I))
  D : ((H ++ (M ++ I)).map (·.1)).Nodup

noncomputable def Same (s s' : Shared) : Prop := s'.gens = s.gens ∧ s'.os = s.os ∧ s'.drawn = s.drawn
theorem Same.rfl' {s : Shared} : Same s s := ⟨rfl, rfl, rfl⟩
theorem Same.trans {s s' s'' : Shared} (x : Same s s') (y : Same s' s'') : Same s s'' := ⟨y.1.trans x.1, y.2.1.trans x.2.1, y.2.2.trans x.2.2⟩

abbrev Post (α : Type) := α → Led → Led → Prop
abbrev noX : Post Value := fun _ _ _ => False

inductive After {α : Type} (a : Act) (mf : Map) (H I : Led) (s : Shared) (Q : Post α) (v : α) (s' : Shared) : Prop
  | mk (M' I' : Led) (S : Sit a mf H M' I' s') (g : I ⊆ I') (e : Same s s') (q : Q v M' I')

noncomputable def Ex {α : Type} (a : Act) (t : Sem α) (m : Map) (M I : Led) (Q : Post α) (X : Post Value) : Prop :=
  ∀ mf H s, Holds a mf H m → Sit a mf H M I s → wpAny (model PG a.w) a.A t (After a mf H I s Q) (After a mf H I s X) s

theorem After.trans {α : Type} {a : Act} {mf : Map} {H I I' : Led} {s s' s'' : Shared} {Q Q' : Post α} {v : α} (hI : I ⊆ I') (hs : Same s s') (h : After a mf H I' s' Q v s'')
    (q : ∀ M'' I'', I' ⊆ I'' → Q v M'' I'' → Q' v M'' I'') : After a mf H I s Q' v s'' := by
  obtain ⟨M2, I2, S, h1, h2, h3⟩ := h
  exact ⟨M2, I2, S, hI.trans h1, hs.trans h2, q _ _ h1 h3⟩

section
variable {α β : Type} {a : Act} {m : Map} {M I : Led} {Q : Post α} {X : Post Value}

theorem Ex.mono {t : Sem α} {Q' : Post α} {X' : Post Value} (h : Ex a t m M I Q X) (q : ∀ v M' I', I ⊆ I' → Q v M' I' → Q' v M' I') (x : ∀ v M' I', I ⊆ I' → X v M' I' → X' v M' I') : Ex a t m M I Q' X' := by
  intro mf H s hm S
  exact wpAny_mono (h mf H s hm S) (fun v s' h => h.trans (fun _ h => h) .rfl' (q v)) (fun v s' h => h.trans (fun _ h => h) .rfl' (x v))

theorem Ex.mono' {t : Sem α} {Q' : Post α} (h : Ex a t m M I Q noX) (q : ∀ v M' I', I ⊆ I' → Q v M' I' → Q' v M' I') : Ex a t m M I Q' X := h.mono q (fun _ _ _ _ h => h.elim)

theorem Ex.bind {t : Sem β} {f : β → Sem α} (h : Ex a t m M I (fun v M' I' => I ⊆ I' → Ex a (f v) m M' I' Q X) X) : Ex a (t >>= f) m M I Q X := by
  intro mf H s hm S
  refine wpAny_bind (wpAny_mono (h mf H s hm S) ?_ fun _ _ h => h)
  rintro v s' ⟨M', I', S', hI, hs, k⟩
  exact wpAny_mono (k hI mf H s' hm S') (fun v s'' h => h.trans hI hs fun _ _ _ h => h) (fun v s'' h => h.trans hI hs fun _ _ _ h => h)

/-- lift of a rule that leaves the heap as it is -/
theorem Sit.same {mf : Map} {H : Led} {s s' : Shared} (S : Sit a mf H M I s) (e : s'.heap = s.heap) : Sit a mf H M I s' := ⟨e ▸ S.F, e ▸ S.N, S.D⟩
theorem Sit.here {mf : Map} {H : Led} {s s' : Shared} {v : α} (S : Sit a mf H M I s) (q : Q v M I) (e : s'.heap = s.heap := by rfl) (hs : Same s s' := by exact ⟨rfl, rfl, rfl⟩) : After a mf H I s Q v s' :=
  ⟨M, I, S.same e, fun _ h => h, hs, q⟩

theorem Sit.fresh {mf : Map} {H : Led} {s : Shared} (S : Sit a mf H M I s) : ∀ p ∈ H ++ (M ++ I), p.1 < s.heap.objs.size := fun p hp => Heap.lt_size (S.N p hp).1

theorem perm_mid (H M I : Led) (p : Addr × Obj) : (H ++ (M ++ p :: I)).Perm (p :: (H ++ (M ++ I))) := by
  rw [← List.append_assoc, ← List.append_assoc]; exact List.perm_middle
theorem perm_M (H M I : Led) (p : Addr × Obj) : (H ++ ((p :: M) ++ I)).Perm (p :: (H ++ (M ++ I))) := by
  rw [List.cons_append]; exact List.perm_middle
theorem nodup_perm {l l' : Led} (h : l.Perm l') (d : (l'.map (·.1)).Nodup) : (l.map (·.1)).Nodup := (h.map (·.1)).nodup_iff.mpr d
theorem news_perm {h₀ h : Heap} {L : Addr} {l l' : Led} (p : l.Perm l') (N : News h₀ L h l') : News h₀ L h l := fun q hq => N q (p.mem_iff.mp hq)
theorem nodup_cons {l : Led} {p : Addr × Obj} (d : (l.map (·.1)).Nodup) (fr : ∀ q ∈ l, q.1 ≠ p.1) : ((p :: l).map (·.1)).Nodup := by
  rw [List.map_cons, List.nodup_cons]
  refine ⟨fun h => ?_, d⟩
  obtain ⟨q, hq, e⟩ := List.mem_map.mp h
  exact fr q hq e

theorem Sit.addI {mf : Map} {H : Led} {s s' : Shared} {r : Addr} {o : Obj} (S : Sit a mf H M I s) (F : Fr a.h₀ a.L s'.heap mf) (N : News a.h₀ a.L s'.heap ((r, o) :: (H ++ (M ++ I)))) (fr : ∀ q ∈ H ++ (M ++ I), q.1 < r) :
    Sit a mf H M ((r, o) :: I) s' :=
  ⟨F, news_perm (perm_mid ..) N, nodup_perm (perm_mid ..) (nodup_cons S.D fun q hq => Nat.ne_of_lt (fr q hq))⟩
theorem Sit.addM {mf : Map} {H : Led} {s s' : Shared} {r : Addr} {o : Obj} (S : Sit a mf H M I s) (F : Fr a.h₀ a.L s'.heap mf) (N : News a.h₀ a.L s'.heap ((r, o) :: (H ++ (M ++ I)))) (fr : ∀ q ∈ H ++ (M ++ I), q.1 < r) :
    Sit a mf H ((r, o) :: M) I s' :=
  ⟨F, news_perm (perm_M ..) N, nodup_perm (perm_M ..) (nodup_cons S.D fun q hq => Nat.ne_of_lt (fr q hq))⟩
theorem Sit.freeze {mf : Map} {H : Led} {s : Shared} {p : Addr × Obj} (S : Sit a mf H (p :: M) I s) : Sit a mf H M (p :: I) s :=
  have e := (perm_mid H M I p).trans (perm_M H M I p).symm
  ⟨S.F, news_perm e S.N, nodup_perm e S.D⟩

theorem Ex.freeze {t : Sem α} {p : Addr × Obj} (h : Ex a t m M (p :: I) Q X) : Ex a t m (p :: M) I Q X := by
  intro mf H s hm S
  exact wpAny_mono (h mf H s hm S.freeze) (fun v s'' h => h.trans (List.subset_cons_self _ _) .rfl' fun _ _ _ h => h) (fun v s'' h => h.trans (List.subset_cons_self _ _) .rfl' fun _ _ _ h => h)

inductive UpdM (d : Addr) (o o' : Obj) : Led → Led → Prop
  | head {r} : UpdM d o o' ((d, o) :: r) ((d, o') :: r)
  | tail {p r r'} : UpdM d o o' r r' → UpdM d o o' (p :: r) (p :: r')
theorem UpdM.map {d : Addr} {o o' : Obj} {l l' : Led} (u : UpdM d o o' l l') : l'.map (·.1) = l.map (·.1) := by
  induction u with
  | head => rfl
  | tail _ ih => simp only [List.map_cons, ih]
theorem UpdM.mem {d : Addr} {o o' : Obj} {l l' : Led} (u : UpdM d o o' l l') : (d, o) ∈ l := by
  induction u with
  | head => exact .head _
  | tail _ ih => exact .tail _ ih
theorem UpdM.mem' {d : Addr} {o o' : Obj} {l l' : Led} (u : UpdM d o o' l l') : (d, o') ∈ l' := by
  induction u with
  | head => exact .head _
  | tail _ ih => exact .tail _ ih
theorem UpdM.app {d : Addr} {o o' : Obj} {l l' : Led} (u : UpdM d o o' l l') (r : Led) : UpdM d o o' (l ++ r) (l' ++ r) := by
  induction u with
  | head => exact .head
  | tail _ ih => exact .tail ih
theorem UpdM.pre {d : Addr} {o o' : Obj} {l l' : Led} (u : UpdM d o o' l l') : ∀ r : Led, UpdM d o o' (r ++ l) (r ++ l')
  | [] => u
  | _ :: r => .tail (u.pre r)
theorem UpdM.upd {d : Addr} {o o' : Obj} {l l' : Led} (u : UpdM d o o' l l') (n : (l.map (·.1)).Nodup) : Upd d o o' l l' := by
  induction u with
  | @head r =>
    rw [List.map_cons, List.nodup_cons] at n
    exact .head fun p hp e => n.1 (List.mem_map.mpr ⟨p, hp, e⟩)
  | @tail p r r' u ih =>
    rw [List.map_cons, List.nodup_cons] at n
    exact .tail (fun e => n.1 (List.mem_map.mpr ⟨_, u.mem, e.symm⟩)) (ih n.2)
theorem Sit.set {mf : Map} {H M' : Led} {s s' : Shared} {d : Addr} {o o' : Obj} (S : Sit a mf H M I s) (u : UpdM d o o' M M') (F : Fr a.h₀ a.L s'.heap mf) (N : News a.h₀ a.L s'.heap (H ++ (M' ++ I))) : Sit a mf H M' I s' :=
  ⟨F, N, by rw [((u.app I).pre H).map]; exact S.D⟩
theorem Sit.upd {mf : Map} {H M' : Led} {s : Shared} {d : Addr} {o o' : Obj} (S : Sit a mf H M I s) (u : UpdM d o o' M M') : Upd d o o' (H ++ (M ++ I)) (H ++ (M' ++ I)) := ((u.app I).pre H).upd S.D

theorem Sit.memI {mf : Map} {H : Led} {s : Shared} (S : Sit a mf H M I s) {p : Addr × Obj} (h : p ∈ I) : s.heap.get? p.1 = some p.2 := (S.N p (List.mem_append_right _ (List.mem_append_right _ h))).1
theorem Sit.memM {mf : Map} {H : Led} {s : Shared} (S : Sit a mf H M I s) {p : Addr × Obj} (h : p ∈ M) : s.heap.get? p.1 = some p.2 := (S.N p (List.mem_append_right _ (List.mem_append_left _ h))).1
theorem Sit.memH {mf : Map} {H : Led} {s : Shared} (S : Sit a mf H M I s) {p : Addr × Obj} (h : p ∈ H) : s.heap.get? p.1 = some p.2 := (S.N p (List.mem_append_left _ h)).1

/-- an object of the ledger -/
noncomputable def At (M I : Led) (x : Addr) (o : Obj) : Prop := (x, o) ∈ M ++ I
theorem Sit.at {mf : Map} {H : Led} {s : Shared} (S : Sit a mf H M I s) {x : Addr} {o : Obj} (h : At M I x o) : s.heap.get? x = some o := (S.N (x, o) (List.mem_append_right _ h)).1
theorem Sit.mem {mf : Map} {H : Led} {s : Shared} (_S : Sit a mf H M I s) {x : Addr} {o : Obj} (h : At M I x o) : (x, o) ∈ H ++ (M ++ I) := List.mem_append_right _ h
theorem At.ofI {x : Addr} {o : Obj} (h : (x, o) ∈ I) : At M I x o := List.mem_append_right _ h
theorem At.ofM {x : Addr} {o : Obj} (h : (x, o) ∈ M) : At M I x o := List.mem_append_left _ h
end

/-! statements -/
abbrev PostS := Flow → Map → Led → Led → Prop
inductive AfterS (a : Act) (R I : Led) (s : Shared) (Q : PostS) (v : Flow) (s' : Shared) : Prop
  | mk (mf' : Map) (G' : Led) (m' : Map) (M' I' : Led) (h : Holds a mf' G' m') (S : Sit a mf' (G' ++ R) M' I' s') (g : I ⊆ I') (e : Same s s') (q : Q v m' M' I')
inductive AfterX (a : Act) (R I : Led) (s : Shared) (X : Post Value) (v : Value) (s' : Shared) : Prop
  | mk (mf' : Map) (G' M' I' : Led) (S : Sit a mf' (G' ++ R) M' I' s') (g : I ⊆ I') (e : Same s s') (q : X v M' I')

noncomputable def Xs (a : Act) (t : Sem Flow) (m : Map) (M I : Led) (Q : PostS) (X : Post Value) : Prop :=
  ∀ mf G R s, Holds a mf G m → Sit a mf (G ++ R) M I s → wpAny (model PG a.w) a.A t (AfterS a R I s Q) (AfterX a R I s X) s

theorem AfterS.trans {a : Act} {R I I' : Led} {s s' s'' : Shared} {Q Q' : PostS} {v : Flow} (hI : I ⊆ I') (hs : Same s s') (h : AfterS a R I' s' Q v s'')
    (q : ∀ m' M'' I'', I' ⊆ I'' → Q v m' M'' I'' → Q' v m' M'' I'') : AfterS a R I s Q' v s'' := by
  obtain ⟨mf, G, m, M2, I2, hm, S, h1, h2, h3⟩ := h
  exact ⟨mf, G, m, M2, I2, hm, S, hI.trans h1, hs.trans h2, q _ _ _ h1 h3⟩
theorem AfterX.trans {a : Act} {R I I' : Led} {s s' s'' : Shared} {X X' : Post Value} {v : Value} (hI : I ⊆ I') (hs : Same s s') (h : AfterX a R I' s' X v s'')
    (q : ∀ M'' I'', I' ⊆ I'' → X v M'' I'' → X' v M'' I'') : AfterX a R I s X' v s'' := by
  obtain ⟨mf, G, M2, I2, S, h1, h2, h3⟩ := h
  exact ⟨mf, G, M2, I2, S, hI.trans h1, hs.trans h2, q _ _ h1 h3⟩

theorem Holds.more {a : Act} {mf : Map} {H R : Led} {m : Map} (h : Holds a mf H m) : Holds a mf (H ++ R) m := by
  refine ⟨fun x v e k => ?_, fun x k => ?_⟩
  · rcases h.loc x v e k with q | ⟨oC, mc, q, r⟩
    · exact .inl q
    · exact .inr ⟨oC, mc, List.mem_append_left _ q, r⟩
  · obtain ⟨c, o, v₀, q, q2, r⟩ := h.cell x k
    exact ⟨c, o, v₀, q, List.mem_append_left _ q2, r⟩

section
variable {X : Post Value} {a : Act} {m : Map} {M I : Led} {Q : PostS}
theorem Xs.mono {t : Sem Flow} {Q' : PostS} {X' : Post Value} (h : Xs a t m M I Q X) (q : ∀ v m' M' I', I ⊆ I' → Q v m' M' I' → Q' v m' M' I') (x : ∀ v M' I', I ⊆ I' → X v M' I' → X' v M' I') : Xs a t m M I Q' X' := by
  intro mf G R s hm S
  exact wpAny_mono (h mf G R s hm S) (fun v s' h => h.trans (fun _ h => h) .rfl' (q v)) (fun v s' h => h.trans (fun _ h => h) .rfl' (x v))

theorem Xs.freeze {t : Sem Flow} {p : Addr × Obj} (h : Xs a t m M (p :: I) Q X) : Xs a t m (p :: M) I Q X := by
  intro mf G R s hm S
  exact wpAny_mono (h mf G R s hm S.freeze) (fun v s'' h => h.trans (List.subset_cons_self _ _) .rfl' fun _ _ _ _ h => h) (fun v s'' h => h.trans (List.subset_cons_self _ _) .rfl' fun _ _ _ h => h)

/-- an expression's tree, then a statement's -/
theorem Xs.ofEx {α : Type} {t : Sem α} {f : α → Sem Flow} (h : Ex a t m M I (fun v M' I' => I ⊆ I' → Xs a (f v) m M' I' Q X) X) : Xs a (t >>= f) m M I Q X := by
  intro mf G R s hm S
  refine wpAny_bind (wpAny_mono (h mf (G ++ R) s hm.more S) ?_ ?_)
  · rintro v s' ⟨M', I', S', hI, hs, k⟩
    exact wpAny_mono (k hI mf G R s' hm S') (fun v s'' h => h.trans hI hs fun _ _ _ _ h => h) (fun v s'' h => h.trans hI hs fun _ _ _ h => h)
  · rintro v s' ⟨M', I', S', hI, hs, k⟩
    exact ⟨mf, G, M', I', S', hI, hs, k⟩

theorem Xs.nil {fenv : Env} (h : Q .next m M I) : Xs a (execs [] fenv) m M I Q X := by
  intro mf G R s hm S
  exact wpAny_execs_nil ⟨mf, G, m, M, I, hm, S, fun _ h => h, .rfl', h⟩

abbrev kX (rest : List Stmt) (X : Post Value) (a : Act) (fenv : Env) (I : Led) (Q : PostS) : PostS := fun fl m' M' I' => match fl with | .next => I ⊆ I' → Xs a (execs rest fenv) m' M' I' Q X | fl => Q fl m' M' I'
theorem Xs.cons {fenv : Env} {st : Stmt} {rest : List Stmt} (h : Xs a (exec st fenv) m M I (kX rest X a fenv I Q) X) : Xs a (execs (st :: rest) fenv) m M I Q X := by
  intro mf G R s hm S
  refine wpAny_execs_cons (wpAny_mono (h mf G R s hm S) ?_ fun _ _ h => h)
  rintro fl s' ⟨mf', G', m', M', I', hm', S', hI, hs, k⟩
  cases fl with
  | next => exact wpAny_mono (k hI mf' G' R s' hm' S') (fun v s'' h => h.trans hI hs fun _ _ _ _ h => h) (fun v s'' h => h.trans hI hs fun _ _ _ h => h)
  | brk => exact ⟨mf', G', m', M', I', hm', S', hI, hs, k⟩
  | cont => exact ⟨mf', G', m', M', I', hm', S', hI, hs, k⟩
  | ret v => exact ⟨mf', G', m', M', I', hm', S', hI, hs, k⟩
end

theorem Same.eq {s s' : Shared} (h : Same s s') : s' = { s with heap := s'.heap, toks := s'.toks } := by
  obtain ⟨a, b, c⟩ := h
  cases s; cases s'; simp only at a b c; subst a; subst b; subst c; rfl
end
section
/-! the continuations by name -/
abbrev kQ1 {α β : Type} (f : α → Sem β) (X : Post Value) (a : Act) (m : Map) (I : Led) (Q : Post β) : Post α := fun x M' I' => I ⊆ I' → Ex a (f x) m M' I' Q X
abbrev kQ2 {α β γ : Type} (f : α → β → Sem γ) (X : Post Value) (a : Act) (m : Map) (I : Led) (t : Sem β) (Q : Post γ) : Post α := fun x M' I' => I ⊆ I' → Ex a t m M' I' (kQ1 (f x) X a m I Q) X
abbrev kAt (attr : Str) (X : Post Value) (a : Act) (m : Map) (I : Led) (Q : Post Value) : Post Value := fun x M' I' => I ⊆ I' → Ex a (getAttr x attr true) m M' I' Q X
abbrev kIf (b : Expr) (o : Expr) (X : Post Value) (a : Act) (m : Map) (I : Led) (Q : Post Value) : Post Bool := fun c M' I' => I ⊆ I' → if c then Ex a (eval b a.env) m M' I' Q X else Ex a (eval o a.env) m M' I' Q X
abbrev kO2 (e : Expr) (X : Post Value) (a : Act) (m : Map) (I : Led) (v : Value) (Q : Post Value) : Post Bool := fun c M'' I'' => I ⊆ I'' → if c then Q v M'' I'' else Ex a (eval e a.env) m M'' I'' Q X
abbrev kO (e : Expr) (X : Post Value) (a : Act) (m : Map) (I : Led) (Q : Post Value) : Post Value := fun v M' I' => I ⊆ I' → Ex a (truthy v) m M' I' (kO2 e X a m I v Q) X
abbrev kN2 (e : Expr) (X : Post Value) (a : Act) (m : Map) (I : Led) (v : Value) (Q : Post Value) : Post Bool := fun c M'' I'' => I ⊆ I'' → if c then Ex a (eval e a.env) m M'' I'' Q X else Q v M'' I''
abbrev kN (e : Expr) (X : Post Value) (a : Act) (m : Map) (I : Led) (Q : Post Value) : Post Value := fun v M' I' => I ⊆ I' → Ex a (truthy v) m M' I' (kN2 e X a m I v Q) X
abbrev kTn (P : Post Bool) : Post Bool := fun c M' I' => P (!c) M' I'
abbrev kTa (e : Expr) (whole : Sem Value) (X : Post Value) (a : Act) (m : Map) (I : Led) (P : Post Bool) : Post Bool := fun c M' I' => I ⊆ I' → if c then Ex a (PySem.isTrue e a.env whole) m M' I' P X else P false M' I'
abbrev kTo (e : Expr) (whole : Sem Value) (X : Post Value) (a : Act) (m : Map) (I : Led) (P : Post Bool) : Post Bool := fun c M' I' => I ⊆ I' → if c then P true M' I' else Ex a (PySem.isTrue e a.env whole) m M' I' P X
abbrev kTi (b : Expr) (o : Expr) (X : Post Value) (a : Act) (m : Map) (I : Led) (P : Post Bool) : Post Bool := fun c M' I' => I ⊆ I' → if c then Ex a (PySem.isTrue b a.env (eval b a.env)) m M' I' P X else Ex a (PySem.isTrue o a.env (eval o a.env)) m M' I' P X
abbrev kC {α : Type} (v : α) (Q : Post (List α)) : Post (List α) := fun vs M'' I'' => Q (v :: vs) M'' I''
section
variable {X : Post Value} {a : Act} {m : Map} {M I : Led} {Q : Post Value} {n : Nat}

theorem E_int {i k pos} (h : ∀ t, Q (.int i t) M I) : Ex a (eval (.Constant (.int i) k pos) a.env) m M I Q X :=
  fun _ _ s _ S => wpAny_Constant_int (S.here (h _))
theorem E_str {x k pos} (h : ∀ t, Q (.str x t) M I) : Ex a (eval (.Constant (.str x) k pos) a.env) m M I Q X :=
  fun _ _ s _ S => wpAny_Constant_str (S.here (h _))
theorem E_none {k pos} (h : Q .none M I) : Ex a (eval (.Constant .none k pos) a.env) m M I Q X :=
  fun _ _ s _ S => wpAny_Constant_none (S.here h)
theorem E_bool {b k pos} (h : Q (.bool b) M I) : Ex a (eval (.Constant (.bool b) k pos) a.env) m M I Q X :=
  fun _ _ s _ S => wpAny_Constant_bool (S.here h)

theorem E_local (ok : a.Ok n) {x pos v} (hv : m x = some v) (hk : a.env.kindOf x = some .local) (h : Q v M I) (hd : (x == ("__debug__" : Str)) = false := by decide) : Ex a (eval (.Name x pos) a.env) m M I Q X := by
  intro mf H s hm S
  refine wpAny_Name ?_ hd
  rcases hm.loc x v hv hk with ⟨e, e2⟩ | ⟨oC, mc, hC, hN, e2⟩
  · exact wpAny_loadName_local ok.ek hk (e ▸ S.F.ns) e2 (S.here h)
  · exact wpAny_loadName_local ok.ek hk (hN.ns (S.memH hC)) e2 (S.here h)
theorem L_local (ok : a.Ok n) {x v} (hv : m x = some v) (hk : a.env.kindOf x = some .local) (h : Q v M I) : Ex a (loadName a.env x) m M I Q X := by
  intro mf H s hm S
  rcases hm.loc x v hv hk with ⟨e, e2⟩ | ⟨oC, mc, hC, hN, e2⟩
  · exact wpAny_loadName_local ok.ek hk (e ▸ S.F.ns) e2 (S.here h)
  · exact wpAny_loadName_local ok.ek hk (hN.ns (S.memH hC)) e2 (S.here h)
theorem E_cell (ok : a.Ok n) {x pos v} (hv : m x = some v) (hk : a.env.kindOf x = some .cell) (h : Q v M I) (hd : (x == ("__debug__" : Str)) = false := by decide) : Ex a (eval (.Name x pos) a.env) m M I Q X := by
  intro mf H s hm S
  obtain ⟨c, o, v₀, e1, e2, e3, e4⟩ := hm.cell x hk
  exact wpAny_Name (wpAny_loadName_cell ok.ek hk e1 ⟨o, S.memH e2, by rw [e3, e4 v hv]⟩ (S.here h)) hd

theorem E_global (ok : a.Ok n) {x pos v} (e : nsIn (hd.heap_39 a.w.params) mainGlobals x = some (some v)) (hk : a.env.kindOf x = some .globalImplicit) (h : Q v M I) (hd : (x == ("__debug__" : Str)) = false := by decide) :
    Ex a (eval (.Name x pos) a.env) m M I Q X := by
  intro mf H s hm S
  obtain ⟨p, l, me, mg, mb, T⟩ := ok.T
  exact Name_function_global ok.ek hk (loadGlobal_global (env := a.env) (by rw [ok.eg]; exact T.g.keeps S.F.keep) (mg_of ok.X T.g e) (S.here h)) hd
theorem E_builtin (ok : a.Ok n) {x pos v} (e : nsIn (hd.heap_39 a.w.params) mainGlobals x = some none) (hv : bootBuiltins x = some v) (hn : x ≠ "__name__") (hk : a.env.kindOf x = some .globalImplicit) (h : Q v M I) (hd : (x == ("__debug__" : Str)) = false := by decide) :
    Ex a (eval (.Name x pos) a.env) m M I Q X := by
  intro mf H s hm S
  obtain ⟨p, l, me, mg, mb, T⟩ := ok.T
  exact Name_function_global ok.ek hk (loadGlobal_builtin (env := a.env) (by rw [ok.eg]; exact T.g.keeps S.F.keep) (mg_none_of ok.X T.g e) (by rw [ok.eb]; exact T.b.keeps S.F.keep) ((T.builtins x hn).trans hv) (S.here h)) hd

/-- two trees one behind the other, whatever joins them -/
theorem seq {α β γ : Type} {a : Act} {m : Map} {M I : Led} {Q : Post α} {X : Post Value} {t : Sem β} {f : β → Sem γ} {whole : Sem α} {R : γ → Sem α}
    (join : ∀ (M' : Model) (A : Around) (Q' : α → Shared → Prop) (E : Value → Shared → Prop) (s : Shared), wpAny M' A t (fun v s₁ => wpAny M' A (f v) (fun u s₂ => wpAny M' A (R u) Q' E s₂) E s₁) E s → wpAny M' A whole Q' E s)
    (h : Ex a t m M I (fun v M' I' => I ⊆ I' → Ex a (f v) m M' I' (fun u M'' I'' => I ⊆ I'' → Ex a (R u) m M'' I'' Q X) X) X) : Ex a whole m M I Q X := by
  intro mf H s hm S
  refine join _ _ _ _ _ (wpAny_mono (h mf H s hm S) ?_ fun _ _ h => h)
  rintro v s' ⟨M', I', S', hI, hs, k⟩
  refine wpAny_mono (k hI mf H s' hm S') ?_ fun v s'' h => h.trans hI hs fun _ _ _ h => h
  rintro u s'' ⟨M'', I'', S'', hI', hs', k'⟩
  exact wpAny_mono (k' (hI.trans hI') mf H s'' hm S'') (fun v s3 h => h.trans (hI.trans hI') (hs.trans hs') fun _ _ _ h => h) fun v s3 h => h.trans (hI.trans hI') (hs.trans hs') fun _ _ _ h => h
theorem seq1 {α β : Type} {a : Act} {m : Map} {M I : Led} {Q : Post α} {X : Post Value} {t : Sem β} {f : β → Sem α} {whole : Sem α}
    (join : ∀ (M' : Model) (A : Around) (Q' : α → Shared → Prop) (E : Value → Shared → Prop) (s : Shared), wpAny M' A t (fun v s₁ => wpAny M' A (f v) Q' E s₁) E s → wpAny M' A whole Q' E s)
    (h : Ex a t m M I (fun v M' I' => I ⊆ I' → Ex a (f v) m M' I' Q X) X) : Ex a whole m M I Q X := by
  intro mf H s hm S
  refine join _ _ _ _ _ (wpAny_mono (h mf H s hm S) ?_ fun _ _ h => h)
  rintro v s' ⟨M', I', S', hI, hs, k⟩
  exact wpAny_mono (k hI mf H s' hm S') (fun v s3 h => h.trans hI hs fun _ _ _ h => h) fun v s3 h => h.trans hI hs fun _ _ _ h => h
theorem seq0 {α β : Type} {a : Act} {m : Map} {M I : Led} {Q : Post α} {X : Post Value} {t : Sem β} {f : β → α} {whole : Sem α}
    (join : ∀ (M' : Model) (A : Around) (Q' : α → Shared → Prop) (E : Value → Shared → Prop) (s : Shared), wpAny M' A t (fun v s₁ => Q' (f v) s₁) E s → wpAny M' A whole Q' E s)
    (h : Ex a t m M I (fun v M' I' => Q (f v) M' I') X) : Ex a whole m M I Q X := by
  intro mf H s hm S
  refine join _ _ _ _ _ (wpAny_mono (h mf H s hm S) ?_ fun _ _ h => h)
  rintro v s' ⟨M', I', S', hI, hs, k⟩
  exact ⟨M', I', S', hI, hs, k⟩

theorem E_binop {l op r pos} (h : Ex a (eval l a.env) m M I (kQ2 (binaryOp op) X a m I (eval r a.env) Q) X) : Ex a (eval (.BinOp l op r pos) a.env) m M I Q X := by
  intro mf H s hm S
  refine wpAny_BinOp (wpAny_mono (h mf H s hm S) ?_ fun _ _ h => h)
  rintro v s' ⟨M', I', S', hI, hs, k⟩
  refine wpAny_mono (k hI mf H s' hm S') ?_ fun v s'' h => h.trans hI hs fun _ _ _ h => h
  rintro u s'' ⟨M'', I'', S'', hI', hs', k'⟩
  exact wpAny_mono (k' (hI.trans hI') mf H s'' hm S'') (fun v s3 h => h.trans (hI.trans hI') (hs.trans hs') fun _ _ _ h => h) fun v s3 h => h.trans (hI.trans hI') (hs.trans hs') fun _ _ _ h => h

theorem E_compare {l op r pos} (hb : behindInMarks op r = false) (h : Ex a (eval l a.env) m M I (kQ2 (compareOp op) X a m I (eval r a.env) Q) X) : Ex a (eval (.Compare l [op] [r] pos) a.env) m M I Q X := by
  intro mf H s hm S
  refine wpAny_Compare1 (wpAny_mono (h mf H s hm S) ?_ fun _ _ h => h) hb
  rintro v s' ⟨M', I', S', hI, hs, k⟩
  refine wpAny_mono (k hI mf H s' hm S') ?_ fun v s'' h => h.trans hI hs fun _ _ _ h => h
  rintro u s'' ⟨M'', I'', S'', hI', hs', k'⟩
  exact wpAny_mono (k' (hI.trans hI') mf H s'' hm S'') (fun v s3 h => h.trans (hI.trans hI') (hs.trans hs') fun _ _ _ h => h) fun v s3 h => h.trans (hI.trans hI') (hs.trans hs') fun _ _ _ h => h

theorem E_attr {e attr pos} (h : Ex a (eval e a.env) m M I (kAt attr X a m I Q) X)
    (hs : eval (.Attribute e attr pos) a.env = (do let o ← eval e a.env; standAt pos.atName; let r ← holding [o] (getAttr o attr true); letTemporaryGo e o r; pure r) := by rfl) : Ex a (eval (.Attribute e attr pos) a.env) m M I Q X := by
  intro mf H s hm S
  refine Attribute_any_ (wpAny_mono (h mf H s hm S) ?_ fun _ _ h => h) hs
  rintro v s' ⟨M', I', S', hI, hs, k⟩
  exact wpAny_mono (k hI mf H s' hm S') (fun v s3 h => h.trans hI hs fun _ _ _ h => h) fun v s3 h => h.trans hI hs fun _ _ _ h => h

theorem E_sub {e i pos} (h : Ex a (eval e a.env) m M I (kQ2 (subscriptTail e i) X a m I (eval i a.env) Q) X) : Ex a (eval (.Subscript e i pos) a.env) m M I Q X := by
  intro mf H s hm S
  refine Subscript_ (wpAny_mono (h mf H s hm S) ?_ fun _ _ h => h)
  rintro v s' ⟨M', I', S', hI, hs, k⟩
  refine wpAny_mono (k hI mf H s' hm S') ?_ fun v s'' h => h.trans hI hs fun _ _ _ h => h
  rintro u s'' ⟨M'', I'', S'', hI', hs', k'⟩
  exact wpAny_mono (k' (hI.trans hI') mf H s'' hm S'') (fun v s3 h => h.trans (hI.trans hI') (hs.trans hs') fun _ _ _ h => h) fun v s3 h => h.trans (hI.trans hI') (hs.trans hs') fun _ _ _ h => h

theorem E_ifexp {test body orelse pos} (h : Ex a (PySem.isTrue test a.env (eval test a.env)) m M I (kIf body orelse X a m I Q) X) : Ex a (eval (.IfExp test body orelse pos) a.env) m M I Q X := by
  intro mf H s hm S
  refine IfExp_ (wpAny_mono (h mf H s hm S) ?_ fun _ _ h => h)
  rintro c s' ⟨M', I', S', hI, hs, k⟩
  cases c with
  | true => exact wpAny_mono (k hI mf H s' hm S') (fun v s3 h => h.trans hI hs fun _ _ _ h => h) fun v s3 h => h.trans hI hs fun _ _ _ h => h
  | false => exact wpAny_mono (k hI mf H s' hm S') (fun v s3 h => h.trans hI hs fun _ _ _ h => h) fun v s3 h => h.trans hI hs fun _ _ _ h => h

theorem E_unary {op e pos} (h : Ex a (eval e a.env) m M I (kQ1 (unaryOp op) X a m I Q) X) : Ex a (eval (.UnaryOp op e pos) a.env) m M I Q X := by
  intro mf H s hm S
  refine UnaryOp_ (wpAny_mono (h mf H s hm S) ?_ fun _ _ h => h)
  rintro v s' ⟨M', I', S', hI, hs, k⟩
  exact wpAny_mono (k hI mf H s' hm S') (fun v s3 h => h.trans hI hs fun _ _ _ h => h) fun v s3 h => h.trans hI hs fun _ _ _ h => h

theorem E_or {e₁ e₂ rest pos} (h : Ex a (eval e₁ a.env) m M I (kO (.BoolOp .Or (e₂ :: rest) pos) X a m I Q) X) : Ex a (eval (.BoolOp .Or (e₁ :: e₂ :: rest) pos) a.env) m M I Q X := by
  intro mf H s hm S
  refine BoolOp_or (wpAny_mono (h mf H s hm S) ?_ fun _ _ h => h)
  rintro v s' ⟨M', I', S', hI, hs, k⟩
  refine wpAny_mono (k hI mf H s' hm S') ?_ fun v s'' h => h.trans hI hs fun _ _ _ h => h
  rintro c s'' ⟨M'', I'', S'', hI', hs', k'⟩
  have k' := k' (hI.trans hI')
  cases c with
  | true => exact ⟨M'', I'', S'', hI.trans hI', hs.trans hs', k'⟩
  | false => exact wpAny_mono (k' mf H s'' hm S'') (fun v s3 h => h.trans (hI.trans hI') (hs.trans hs') fun _ _ _ h => h) fun v s3 h => h.trans (hI.trans hI') (hs.trans hs') fun _ _ _ h => h
theorem E_and {e₁ e₂ rest pos} (h : Ex a (eval e₁ a.env) m M I (kN (.BoolOp .And (e₂ :: rest) pos) X a m I Q) X) : Ex a (eval (.BoolOp .And (e₁ :: e₂ :: rest) pos) a.env) m M I Q X := by
  intro mf H s hm S
  refine BoolOp_and (wpAny_mono (h mf H s hm S) ?_ fun _ _ h => h)
  rintro v s' ⟨M', I', S', hI, hs, k⟩
  refine wpAny_mono (k hI mf H s' hm S') ?_ fun v s'' h => h.trans hI hs fun _ _ _ h => h
  rintro c s'' ⟨M'', I'', S'', hI', hs', k'⟩
  have k' := k' (hI.trans hI')
  cases c with
  | false => exact ⟨M'', I'', S'', hI.trans hI', hs.trans hs', k'⟩
  | true => exact wpAny_mono (k' mf H s'' hm S'') (fun v s3 h => h.trans (hI.trans hI') (hs.trans hs') fun _ _ _ h => h) fun v s3 h => h.trans (hI.trans hI') (hs.trans hs') fun _ _ _ h => h
theorem E_bool1 {op e pos} (h : Ex a (eval e a.env) m M I Q X) : Ex a (eval (.BoolOp op [e] pos) a.env) m M I Q X := h

/-! tests -/
variable {P : Post Bool} {whole : Sem Value}
theorem T_not {e pos} (h : Ex a (PySem.isTrue e a.env (eval e a.env)) m M I (kTn P) X) : Ex a (PySem.isTrue (.UnaryOp .Not e pos) a.env whole) m M I P X := by
  intro mf H s hm S
  exact isTrue_not (wpAny_mono (h mf H s hm S) (fun _ _ ⟨M', I', S', hI, hs, k⟩ => ⟨M', I', S', hI, hs, k⟩) fun _ _ h => h)
theorem T_and_nil {pos} (h : P true M I) : Ex a (PySem.isTrue (.BoolOp .And [] pos) a.env whole) m M I P X := fun _ _ _ _ S => isTrue_and_nil (S.here h)
theorem T_or_nil {pos} (h : P false M I) : Ex a (PySem.isTrue (.BoolOp .Or [] pos) a.env whole) m M I P X := fun _ _ _ _ S => isTrue_or_nil (S.here h)
theorem T_and {e rest pos} (h : Ex a (PySem.isTrue e a.env (eval e a.env)) m M I (kTa (.BoolOp .And rest pos) whole X a m I P) X) : Ex a (PySem.isTrue (.BoolOp .And (e :: rest) pos) a.env whole) m M I P X := by
  intro mf H s hm S
  refine isTrue_and (wpAny_mono (h mf H s hm S) ?_ fun _ _ h => h)
  rintro c s' ⟨M', I', S', hI, hs, k⟩
  have k := k hI
  cases c with
  | true => exact wpAny_mono (k mf H s' hm S') (fun v s3 h => h.trans hI hs fun _ _ _ h => h) fun v s3 h => h.trans hI hs fun _ _ _ h => h
  | false => exact ⟨M', I', S', hI, hs, k⟩
theorem T_or {e rest pos} (h : Ex a (PySem.isTrue e a.env (eval e a.env)) m M I (kTo (.BoolOp .Or rest pos) whole X a m I P) X) : Ex a (PySem.isTrue (.BoolOp .Or (e :: rest) pos) a.env whole) m M I P X := by
  intro mf H s hm S
  refine isTrue_or (wpAny_mono (h mf H s hm S) ?_ fun _ _ h => h)
  rintro c s' ⟨M', I', S', hI, hs, k⟩
  have k := k hI
  cases c with
  | false => exact wpAny_mono (k mf H s' hm S') (fun v s3 h => h.trans hI hs fun _ _ _ h => h) fun v s3 h => h.trans hI hs fun _ _ _ h => h
  | true => exact ⟨M', I', S', hI, hs, k⟩
theorem T_compare {l op r pos} (hb : behindInMarks op r = false) (h : Ex a (eval l a.env) m M I (kQ2 (compareOp op) X a m I (eval r a.env) (kQ1 truthy X a m I P)) X) : Ex a (PySem.isTrue (.Compare l [op] [r] pos) a.env whole) m M I P X := by
  intro mf H s hm S
  refine wpAny_isTrue_Compare1 (wpAny_mono (h mf H s hm S) ?_ fun _ _ h => h) hb
  rintro v s' ⟨M', I', S', hI, hs, k⟩
  refine wpAny_mono (k hI mf H s' hm S') ?_ fun v s'' h => h.trans hI hs fun _ _ _ h => h
  rintro u s'' ⟨M'', I'', S'', hI', hs', k'⟩
  refine wpAny_mono (k' (hI.trans hI') mf H s'' hm S'') ?_ fun v s3 h => h.trans (hI.trans hI') (hs.trans hs') fun _ _ _ h => h
  rintro u s3 ⟨M3, I3, S3, hI3, hs3, k3⟩
  have hI3 := (hI.trans hI').trans hI3
  have hs3 := (hs.trans hs').trans hs3
  exact wpAny_mono (k3 hI3 mf H s3 hm S3) (fun v s4 h => h.trans hI3 hs3 fun _ _ _ h => h) fun v s4 h => h.trans hI3 hs3 fun _ _ _ h => h
theorem T_ifexp {test body orelse pos} (h : Ex a (PySem.isTrue test a.env (eval test a.env)) m M I (kTi body orelse X a m I P) X) : Ex a (PySem.isTrue (.IfExp test body orelse pos) a.env whole) m M I P X := by
  intro mf H s hm S
  refine isTrue_IfExp (wpAny_mono (h mf H s hm S) ?_ fun _ _ h => h)
  rintro c s' ⟨M', I', S', hI, hs, k⟩
  cases c with
  | true => exact wpAny_mono (k hI mf H s' hm S') (fun v s3 h => h.trans hI hs fun _ _ _ h => h) fun v s3 h => h.trans hI hs fun _ _ _ h => h
  | false => exact wpAny_mono (k hI mf H s' hm S') (fun v s3 h => h.trans hI hs fun _ _ _ h => h) fun v s3 h => h.trans hI hs fun _ _ _ h => h
theorem T_plain {e} {t : Sem Value} (h : Ex a t m M I (kQ1 truthy X a m I P) X)
    (hs : PySem.isTrue e a.env t = (do let v ← t; standAt e.pos; holding [v] (truthy v)) := by rfl) : Ex a (PySem.isTrue e a.env t) m M I P X := by
  intro mf H s hm S
  refine isTrue_plain (wpAny_mono (h mf H s hm S) ?_ fun _ _ h => h) hs
  rintro v s' ⟨M', I', S', hI, hs, k⟩
  exact wpAny_mono (k hI mf H s' hm S') (fun v s3 h => h.trans hI hs fun _ _ _ h => h) fun v s3 h => h.trans hI hs fun _ _ _ h => h
theorem truthy_b {b : Bool} (h : P b M I) : Ex a (truthy (.bool b)) m M I P X := fun _ _ _ _ S => wpAny_truthy_bool (S.here h)

/-! lists of expressions -/
noncomputable def Es (a : Act) (es : List Expr) (pos : Pos) (m : Map) (M I : Led) (Q : Post (List Value)) (X : Post Value) : Prop := Ex a (spliced (backTo pos (starEach es a.env))) m M I Q X
noncomputable def notStar : Expr → Bool
  | .Starred .. => false
  | _ => true
theorem starEach_cons {e : Expr} {rest : List Expr} {env : Env} (h : notStar e = true) : starEach (e :: rest) env = (false, eval e env) :: starEach rest env := by
  cases e <;> first | rfl | cases h
theorem Es.nil {pos} {Q : Post (List Value)} (h : Q [] M I) : Es a [] pos m M I Q X := fun _ _ _ _ S => wpAny_pure (S.here h)
abbrev kEs (rest : List Expr) (pos : Pos) (X : Post Value) (a : Act) (m : Map) (I : Led) (Q : Post (List Value)) : Post Value := fun v M' I' => I ⊆ I' → Es a rest pos m M' I' (kC v Q) X
theorem Es.cons {e rest pos} {Q : Post (List Value)} (h : Ex a (eval e a.env) m M I (kEs rest pos X a m I Q) X) (hn : notStar e = true := by rfl) : Es a (e :: rest) pos m M I Q X := by
  intro mf H s hm S
  rw [starEach_cons hn]
  show wpAny _ _ (spliced ((false, eval e a.env) :: backTo pos (starEach rest a.env))) _ _ s
  unfold spliced
  refine wpAny_bind (wpAny_mono (h mf H s hm S) ?_ fun _ _ h => h)
  rintro v s' ⟨M', I', S', hI, hs, k⟩
  refine wpAny_bind ?_
  show wpAny _ _ (pure [v]) _ _ s'
  refine wpAny_pure (wpAny_bind (wpAny_holding (wpAny_mono (k hI mf H s' hm S') ?_ fun v s3 h => h.trans hI hs fun _ _ _ h => h)))
  rintro vs s'' ⟨M'', I'', S'', hI', hs', k'⟩
  exact wpAny_pure ⟨M'', I'', S'', hI.trans hI', hs.trans hs', k'⟩
end
end
section
abbrev Li (vs : List Value) (n : Nat) : Obj := listOf vs.toArray n
abbrev Tu (vs : List Value) (n : Nat) : Obj := { cls := .type "tuple", data := .seq vs.toArray n }
abbrev SK (w : World) : KeyKind PG w Str := PySem.strKind PG w

section
variable {X : Post Value} {a : Act} {m : Map} {M I : Led} {Q : Post Value} {n : Nat}

theorem add_ii {x y t u} (h : ∀ t', Q (.int (x + y) t') M I) : Ex a (binaryOp .Add (.int x t) (.int y u)) m M I Q X := fun _ _ _ _ S => add_int (S.here (h _))
theorem iadd_ii {x y t u} (h : ∀ t', Q (.int (x + y) t') M I) : Ex a (inplaceOp .Add (.int x t) (.int y u)) m M I Q X := fun _ _ _ _ S => iadd_int (S.here (h _))
theorem sub_ii {x y t u} (h : ∀ t', Q (.int (x - y) t') M I) : Ex a (binaryOp .Sub (.int x t) (.int y u)) m M I Q X := fun _ _ _ _ S => sub_int (S.here (h _))
theorem mul_ii {x y t u} (hb : IntMulOk x y) (h : ∀ t', Q (.int (x * y) t') M I) : Ex a (binaryOp .Mult (.int x t) (.int y u)) m M I Q X := fun _ _ _ _ S => mul_int (S.here (h _)) hb
theorem mod_ii {x y t u} (hy : y ≠ 0) (h : ∀ t', Q (.int (Int.fmod x y) t') M I) : Ex a (binaryOp .Mod (.int x t) (.int y u)) m M I Q X := fun _ _ _ _ S => mod_int hy (S.here (h _))
theorem fdiv_ii {x y t u} (hy : y ≠ 0) (hp : Builtin.divisionGoesByPylong x y = false) (h : ∀ t', Q (.int (Int.fdiv x y) t') M I) : Ex a (binaryOp .FloorDiv (.int x t) (.int y u)) m M I Q X := fun _ _ _ _ S => floordiv_int hy (S.here (h _)) (.inl hp)
theorem pow_ii {x y t u} (hy : 0 ≤ y) (hp : (Builtin.Int.intBits x : Int) * y ≤ 2 ^ 27) (h : ∀ t', Q (.int (x ^ y.toNat) t') M I) : Ex a (binaryOp .Pow (.int x t) (.int y u)) m M I Q X := fun _ _ _ _ S => pow_int hy hp (S.here (h _))
theorem neg_i {x t} (h : ∀ t', Q (.int (-x) t') M I) : Ex a (unaryOp .USub (.int x t)) m M I Q X := fun _ _ _ _ S => neg_int (S.here (h _))

theorem eq_ii {x y t u} (h : Q (.bool (x == y)) M I) : Ex a (compareOp .Eq (.int x t) (.int y u)) m M I Q X := fun _ _ _ _ S => eq_int (S.here h)
theorem ne_ii {x y t u} (h : Q (.bool (x != y)) M I) : Ex a (compareOp .NotEq (.int x t) (.int y u)) m M I Q X := fun _ _ _ _ S => ne_int (S.here h)
theorem lt_ii {x y t u} (h : Q (.bool (decide (x < y))) M I) : Ex a (compareOp .Lt (.int x t) (.int y u)) m M I Q X := fun _ _ _ _ S => lt_int (S.here h)
theorem le_ii {x y t u} (h : Q (.bool (decide (x ≤ y))) M I) : Ex a (compareOp .LtE (.int x t) (.int y u)) m M I Q X := fun _ _ _ _ S => le_int (S.here h)
theorem gt_ii {x y t u} (h : Q (.bool (decide (y < x))) M I) : Ex a (compareOp .Gt (.int x t) (.int y u)) m M I Q X := fun _ _ _ _ S => gt_int (S.here h)
theorem ge_ii {x y t u} (h : Q (.bool (decide (y ≤ x))) M I) : Ex a (compareOp .GtE (.int x t) (.int y u)) m M I Q X := fun _ _ _ _ S => ge_int (S.here h)
theorem eq_ss {x y t u} (h : Q (.bool (x == y)) M I) : Ex a (compareOp .Eq (.str x t) (.str y u)) m M I Q X := fun _ _ _ _ S => eq_str (S.here h)
theorem ne_ss {x y t u} (h : Q (.bool (x != y)) M I) : Ex a (compareOp .NotEq (.str x t) (.str y u)) m M I Q X := fun _ _ _ _ S => ne_str (S.here h)
theorem is_n {v} (h : Q (.bool (v == .none)) M I) : Ex a (compareOp .Is v .none) m M I Q X := fun _ _ _ _ S => is_none_gen (S.here h)
theorem isnot_n {v} (h : Q (.bool (!(v == .none))) M I) : Ex a (compareOp .IsNot v .none) m M I Q X := fun _ _ _ _ S => isnot_none_gen (S.here h)
theorem add_ss {x y t u} (hz : x.length + y.length ≤ sizeLine) (h : ∀ t', Q (.str (x ++ y) t') M I) : Ex a (binaryOp .Add (.str x t) (.str y u)) m M I Q X := fun _ _ _ _ S => add_str (fun _ _ => S.here (h _)) hz

/-! objects -/
theorem Sit.keepK (ok : a.Ok n) {mf H s} (S : Sit a mf H M I s) : (hd.heap_39 a.w.params).In s.heap := ok.X.keeps S.F.keep
theorem At.isList {mf : Map} {H : Led} {s : Shared} {l : Addr} {vs : List Value} {k : Nat} (h : At M I l (Li vs k)) (S : Sit a mf H M I s) : s.heap.IsList l vs.toArray := ⟨_, S.at h, rfl, k, rfl⟩
theorem At.isTup {mf : Map} {H : Led} {s : Shared} {l : Addr} {vs : List Value} {k : Nat} (h : At M I l (Tu vs k)) (S : Sit a mf H M I s) : IsTup s.heap l vs.toArray := ⟨_, S.at h, rfl, k, rfl⟩

/-- the entries of an object's dict: names and values -/
inductive Flds : List DictEntry → List (Str × Value) → Prop
  | nil : Flds [] []
  | cons {e : DictEntry} {x : Str} {v : Value} {es kvs} : (∃ t, e.key = .str x t) → e.val = v → Flds es kvs → Flds (e :: es) ((x, v) :: kvs)
noncomputable def FD (kvs : List (Str × Value)) (o : Obj) : Prop := ∃ es k, o = dictOf es k ∧ Flds es kvs
noncomputable def setK (x : Str) (v : Value) : List (Str × Value) → List (Str × Value)
  | [] => [(x, v)]
  | p :: r => if p.1 = x then (x, v) :: r else p :: setK x v r
noncomputable def getK (x : Str) : List (Str × Value) → Option Value
  | [] => none
  | p :: r => if p.1 = x then some p.2 else getK x r
theorem isStr_key {k : Value} {x y : Str} {t : Tok} (h : k = .str x t) : k.isStr y = decide (x = y) := by
  subst h
  show (x == y) = decide (x = y)
  by_cases e : x = y
  · subst e; simp
  · simp [e]
theorem Flds.getL {es kvs} (f : Flds es kvs) (x : Str) : getL x es = some (getK x kvs) := by
  have no : es.any (·.refKey) = false := by
    induction f with
    | nil => rfl
    | cons hk _ _ ih =>
      obtain ⟨t, hk⟩ := hk
      rw [List.any_cons, ih, Bool.or_false]
      unfold DictEntry.refKey
      rw [hk]
  unfold PySem.W.getL
  rw [no]
  clear no
  induction f with
  | nil => rfl
  | @cons e y v es kvs hk hv _ ih =>
    obtain ⟨t, hk⟩ := hk
    rw [List.find?_cons, isStr_key hk]
    unfold getK
    by_cases q : y = x
    · subst hv; simp [q]
    · simp only [q, decide_false, if_false]
      exact ih
theorem Flds.putL {es kvs} (f : Flds es kvs) (x : Str) (hs : Int) (t : Tok) (v : Value) : Flds (putL x hs (.str x t) v es) (setK x v kvs) := by
  induction f with
  | nil => exact .cons ⟨t, rfl⟩ rfl .nil
  | @cons e y u es kvs hk hv f ih =>
    obtain ⟨t', hk⟩ := hk
    unfold PySem.W.putL setK
    rw [isStr_key hk]
    by_cases q : y = x
    · subst q
      simp only [decide_true, if_true]
      exact .cons ⟨t', hk⟩ rfl f
    · simp only [q, decide_false, Bool.false_eq_true, if_false]
      exact .cons ⟨t', hk⟩ hv ih
theorem Flds.len {es kvs} (f : Flds es kvs) : es.length = kvs.length := by
  induction f with
  | nil => rfl
  | cons _ _ _ ih => simp [ih]

theorem get_field (ok : a.Ok n) {x dx C : Addr} {o : Obj} {kvs} {name : Str} {v : Value} {attr : Option Value} {expr : Bool} (hx : At M I x (instObj C dx)) (hdx : At M I dx o) (f : FD kvs o)
    (hg : plainGet (hd.heap_39 a.w.params) C name = true) (hh : hasDictIn (hd.heap_39 a.w.params) C = true) (ha : findIn (hd.heap_39 a.w.params) (.ref C) name = some attr) (hn : noGet (hd.heap_39 a.w.params) attr = true)
    (hl : getK name kvs = some v) (hv : handedIn v = true) (h : Q v M I) : Ex a (getAttr (.ref x) name expr) m M I Q X := by
  obtain ⟨es, k, rfl, f⟩ := f
  exact fun _ _ _ _ S => get_own S.F ok.X (InstAt.of_news S.N (S.mem hx) (S.mem hdx)) hg hh ha hn (by rw [f.getL, hl]) hv (S.here h)

theorem set_field (ok : a.Ok n) {x dx C : Addr} {o : Obj} {kvs} {name : Str} {v : Value} {M' : Obj → Led} {P : Post Unit} (hx : At M I x (instObj C dx)) (f : FD kvs o)
    (hs : findIn (hd.heap_39 a.w.params) (.ref C) "__setattr__" = some (some (.builtin "object.__setattr__"))) (hp : plainOver (hd.heap_39 a.w.params) C = true) (ht : takerIn (hd.heap_39 a.w.params) C name = some none)
    (hh : hasDictIn (hd.heap_39 a.w.params) C = true) (hz : (setK name v kvs).length ≤ 1000) (U : ∀ o', UpdM dx o o' M (M' o')) (h : ∀ o', FD (setK name v kvs) o' → P () (M' o') I) : Ex a (setAttr (.ref x) name v) m M I P X := by
  obtain ⟨es, k, rfl, f⟩ := f
  intro mf H s hm S
  have hdx : At M I dx (dictOf es k) := .ofM (U (dictOf es k)).mem
  refine set_dict S.F ok.X S.N (InstAt.of_news S.N (S.mem hx) (S.mem hdx)) rfl hs hp ht hh (by rw [f.getL]; rfl) rfl (S.upd (U _)) ?_ ?_
  · rw [(f.putL _ _ _ _).len]; exact hz
  · intro h' F' N'
    exact ⟨_, I, S.set (U _) F' N', fun _ h => h, ⟨rfl, rfl, rfl⟩, h _ ⟨_, _, rfl, f.putL _ _ _ _⟩⟩

theorem list_item {l k t vs c x} {e i : Expr} (hl : At M I l (Li vs c)) (h0 : 0 ≤ k) (hb : k < 2 ^ 63) (hx : vs[k.toNat]? = some x) (h : Q x M I)
    (hs : subscripted i false (.ref l) (.int k t) = operate [.ref l, .int k t] (getItem (.ref l) (.int k t)) := by rfl) : Ex a (subscriptTail e i (.ref l) (.int k t)) m M I Q X :=
  fun _ _ _ _ S => tail_any (hl.isList S).typeIs slot_list_getitem.lookup (wpAny_getItem_list (hl.isList S) h0 hb (by simpa using hx) (S.here h)) hs
theorem dict_item {d o kvs x t v} {e i : Expr} (hd' : At M I d o) (ho : o.IsDictOf (SK a.w) kvs) (hx : valueAt kvs x = some v) (h : Q v M I)
    (hs : subscripted i false (.ref d) (.str x t) = operate [.ref d, .str x t] (getItem (.ref d) (.str x t)) := by rfl) : Ex a (subscriptTail e i (.ref d) (.str x t)) m M I Q X :=
  fun _ _ s _ S => have D : s.heap.DictOf (SK a.w) d kvs := kda_dict S.N (S.mem hd') ho
    tail_any D.typeIs slot_dict_getitem.lookup (wpAny_getItem_of (strKind_is PG a.w x t) D.mapOf hx (S.here h)) hs

theorem notin_dict {d o kvs x t b} (lo : (d == sysModules) = false) (hd' : At M I d o) (ho : o.IsDictOf (SK a.w) kvs) (hb : (valueAt kvs x).isSome = b) (h : Q (.bool (!b)) M I) : Ex a (compareOp .NotIn (.str x t) (.ref d)) m M I Q X :=
  fun _ _ _ _ S => kdg_notin S.N (S.mem hd') ho lo (strKind_is PG a.w x t) b hb (S.here h)

theorem truthy_i {P : Post Bool} {x t} (h : P (x != 0) M I) : Ex a (truthy (.int x t)) m M I P X := fun _ _ _ _ S => truthy_int (S.here h)
theorem truthy_none {P : Post Bool} (h : P false M I) : Ex a (truthy .none) m M I P X := fun _ _ _ _ S => PyProof.Rows.truthy_none (S.here h)

/-! built-ins -/
theorem len_li {l vs c} (hl : At M I l (Li vs c)) (hz : vs.length < 2 ^ 63) (h : ∀ t, Q (.int vs.length t) M I) : Ex a (call (.builtin "len") [.ref l]) m M I Q X :=
  fun _ _ _ _ S => len_list (hl.isList S) (by simp; omega) (S.here (by simpa using h _))
theorem copy_li {l vs c} (hl : At M I l (Li vs c)) (hz : vs.length ≤ sizeLine) (h : ∀ D c', Q (.ref D) ((D, Li vs c') :: M) I) : Ex a (call (.type "list") [.ref l]) m M I Q X :=
  fun _ _ _ _ S => list_copyK S.F S.N (hl.isList S) (fun D c' h' F' N' fr => ⟨_, I, S.addM F' N' fr, fun _ h => h, ⟨rfl, rfl, rfl⟩, h D c'⟩) (by simpa using hz)
theorem range_1 {k t} (h : ∀ r t₁ t₂ t₃, Q (.ref r) M ((r, { cls := .type "range", data := .fields #[.int 0 t₁, .int k t₂, .int 1 t₃] }) :: I)) : Ex a (call (.type "range") [.int k t]) m M I Q X :=
  fun _ _ s _ S => range1_rows S.F S.N fun h' tk t₁ u₁ v₁ hr F' N' _ =>
    ⟨M, _, S.addI F' (fun p hp => by
      rcases List.mem_cons.mp hp with rfl | hp
      · refine ⟨hr, Nat.ne_of_gt S.F.ns.lt, ?_⟩
        cases q : a.h₀.get? s.heap.objs.size with
        | none => rfl
        | some o => exact absurd (Heap.lt_size (S.F.keep _ _ q)) (Nat.lt_irrefl _)
      · exact N' p hp) S.fresh, List.subset_cons_self _ _, ⟨rfl, rfl, rfl⟩, h _ _ _ _⟩
theorem max_2 (ok : a.Ok n) {x y t u} (h : ∀ t', Q (.int (max x y) t') M I) : Ex a (call (.builtin "max") [.int x t, .int y u]) m M I Q X :=
  fun _ _ s _ S => max_two_N ok.hh S.F S.N fun h' tk F' N' => ⟨M, I, ⟨F', N', S.D⟩, fun _ h => h, ⟨rfl, rfl, rfl⟩, by
    have e : (if y > x then y else x) = max x y := by rw [Int.max_def]; split <;> split <;> omega
    rw [e]; exact h _⟩
theorem str_i {k t} (hk : Nat.log2 k.natAbs < 1920) (h : ∀ t', Q (.str (Str.ofString (toString k)) t') M I) : Ex a (call (.type "str") [.int k t]) m M I Q X := fun _ _ _ _ S => P.str_of_int hk (S.here (h _))

theorem append_li {l vs c v M'} (U : UpdM l (Li vs c) (Li (vs ++ [v]) (c + 1)) M M') (hz : vs.length ≤ sizeLine) (h : Q .none M' I) : Ex a (call (.builtin "list.append") [.ref l, v]) m M I Q X :=
  fun _ _ _ _ S => append_K (its := vs.toArray) S.F S.N (by rw [List.push_toArray]; exact S.upd U) (fun h' F' N' => ⟨M', I, S.set U F' N', fun _ h => h, ⟨rfl, rfl, rfl⟩, h⟩) (by simpa using hz)
theorem extend_li {l b vs us c c' M'} (hb : At M I b (Li us c')) (hne : us ≠ []) (U : UpdM l (Li vs c) (Li (vs ++ us) (c + 1)) M M') (hz : vs.length + us.length ≤ sizeLine) (h : Q .none M' I) : Ex a (call (.builtin "list.extend") [.ref l, .ref b]) m M I Q X :=
  fun _ _ _ _ S => kl_extend (its := vs.toArray) (its2 := us.toArray) S.F S.N (S.mem hb) (by simp) (by simpa using hne) (S.upd U) (extend_door (by simpa using hz)) (by simp; omega) (by simp; omega) (fun h' F' N' => ⟨M', I, S.set U F' N', fun _ h => h, ⟨rfl, rfl, rfl⟩, h⟩)

theorem method_li {l vs c} {name : Str} {id : String} {pl : Sem Bool} {P : Post (Value × List Value)} (hl : At M I l (Li vs c)) (hs : Slot "list" name id) (ht : typeOf (.builtin id) = pure (.type "method_descriptor")) (h : P (.builtin id, [.ref l]) M I) : Ex a (getMethod (.ref l) name pl) m M I P X :=
  fun _ _ _ _ S => listMethod_K S.N (S.mem hl) hs ht (S.here h)

abbrev kTu (Q : Post Value) : Post (List Value) := fun vs M' I' => vs.length ≤ sizeLine ∧ ∀ r, Q (.ref r) M' ((r, Tu vs 0) :: I')
abbrev kLi (Q : Post Value) : Post (List Value) := fun vs M' I' => vs.length ≤ sizeLine ∧ ∀ r, Q (.ref r) ((r, Li vs 0) :: M') I'
abbrev kCa (f : Value) (X : Post Value) (a : Act) (m : Map) (I : Led) (Q : Post Value) : Post (List Value) := fun vs M' I' => I ⊆ I' → Ex a (call f vs) m M' I' Q X
abbrev kMb (id : String) (X : Post Value) (a : Act) (m : Map) (I : Led) (first : List Value) (Q : Post Value) : Post (List Value) := fun vs M'' I'' => I ⊆ I'' → Ex a (call (.builtin id) (first ++ vs)) m M'' I'' Q X
abbrev kMe (es : List Expr) (pos : Pos) (id : String) (name : Str) (X : Post Value) (a : Act) (m : Map) (I : Led) (Q : Post Value) : Post Value := fun v M' I' => ∃ first, (∀ P : Post (Value × List Value), P (.builtin id, first) M' I' → ∀ pl, Ex a (getMethod v name pl) m M' I' P X) ∧
      (I ⊆ I' → Es a es pos m M' I' (kMb id X a m I first Q) X)
/-! displays -/
theorem newTuple_ {vs} (hz : vs.length ≤ sizeLine) (h : ∀ r, Q (.ref r) M ((r, Tu vs 0) :: I)) : Ex a (newTuple vs) m M I Q X :=
  fun _ _ _ _ S => newTuple_N S.F S.N (fun h' F' N' => ⟨M, _, S.addI F' N' S.fresh, List.subset_cons_self _ _, ⟨rfl, rfl, rfl⟩, h _⟩) hz
theorem newList_ {vs} (hz : vs.length ≤ sizeLine) (h : ∀ r, Q (.ref r) ((r, Li vs 0) :: M) I) : Ex a (newList vs) m M I Q X :=
  fun _ _ _ _ S => newList_N S.F S.N (fun h' F' N' => ⟨_, I, S.addM F' N' S.fresh, fun _ h => h, ⟨rfl, rfl, rfl⟩, h _⟩) hz
theorem E_tuple {es k pos} (h : Es a es pos m M I (kTu Q) X) : Ex a (eval (.Tuple es k pos) a.env) m M I Q X := by
  intro mf H s hm S
  refine Tuple_ (wpAny_mono (h mf H s hm S) ?_ fun _ _ h => h)
  rintro v s' ⟨M', I', S', hI, hs, k⟩
  exact wpAny_mono (newTuple_ (X := X) k.1 k.2 mf H s' hm S') (fun v s3 h => h.trans hI hs fun _ _ _ h => h) fun v s3 h => h.trans hI hs fun _ _ _ h => h
theorem E_list {es pos} (h : Es a es pos m M I (kLi Q) X) : Ex a (eval (.List es pos) a.env) m M I Q X := by
  intro mf H s hm S
  refine List_ (wpAny_mono (h mf H s hm S) ?_ fun _ _ h => h)
  rintro v s' ⟨M', I', S', hI, hs, k⟩
  exact wpAny_mono (newList_ (X := X) k.1 k.2 mf H s' hm S') (fun v s3 h => h.trans hI hs fun _ _ _ h => h) fun v s3 h => h.trans hI hs fun _ _ _ h => h

/-! calls of a name -/
theorem E_callK (ok : a.Ok n) {x xp e es pos f} (hf : nsIn (hd.heap_39 a.w.params) mainGlobals x = some (some f)) (hk : a.env.kindOf x = some .globalImplicit) (hq : keepIn (hd.heap_39 a.w.params) f = true)
    (h : Es a (e :: es) pos m M I (kCa f X a m I Q) X) (hn : notStar e = true := by rfl) (hn2 : (backTo pos (starEach es a.env)).any (·.1) = false := by rfl) (hx : (x == ("__debug__" : Str)) = false := by decide)
    (hs : eval (.Call (.Name x xp) (e :: es) [] pos) a.env = (do callWith pos (← eval (.Name x xp) a.env) [] (backTo pos (starEach (e :: es) a.env)) (backToKw pos (keywordEach [] a.env))) := by rfl) : Ex a (eval (.Call (.Name x xp) (e :: es) [] pos) a.env) m M I Q X := by
  intro mf H s hm S
  refine Call_ (E_global (Q := fun v M' I' => v = f ∧ M' = M ∧ I' = I) (X := X) ok hf hk ⟨rfl, rfl, rfl⟩ hx mf H s hm S |> fun w => wpAny_mono w ?_ fun _ _ h => h) hs
  rintro v s' ⟨M', I', S', -, hs', rfl, rfl, rfl⟩
  refine callWith_K (h₀ := a.h₀) ok.X hq (wpAny_mono (h mf H s' hm S') ?_ fun v s3 h => h.trans (fun _ h => h) hs' fun _ _ _ h => h) (starEach_cons hn) hn2
  rintro vs s'' ⟨M2, I2, S2, hI, hs2, k⟩
  refine ⟨S2.keepK ok, wpAny_mono (k hI mf H s'' hm S2) (fun v s3 h => h.trans hI (hs'.trans hs2) fun _ _ _ h => h) fun v s3 h => h.trans hI (hs'.trans hs2) fun _ _ _ h => h⟩
theorem E_callK0 (ok : a.Ok n) {x xp pos f} (hf : nsIn (hd.heap_39 a.w.params) mainGlobals x = some (some f)) (hk : a.env.kindOf x = some .globalImplicit) (hq : keepIn (hd.heap_39 a.w.params) f = true)
    (h : Ex a (call f []) m M I Q X) (hx : (x == ("__debug__" : Str)) = false := by decide)
    (hs : eval (.Call (.Name x xp) [] [] pos) a.env = (do callWith pos (← eval (.Name x xp) a.env) [] (backTo pos (starEach [] a.env)) (backToKw pos (keywordEach [] a.env))) := by rfl) : Ex a (eval (.Call (.Name x xp) [] [] pos) a.env) m M I Q X := by
  intro mf H s hm S
  refine Call_ (E_global (Q := fun v M' I' => v = f ∧ M' = M ∧ I' = I) (X := X) ok hf hk ⟨rfl, rfl, rfl⟩ hx mf H s hm S |> fun w => wpAny_mono w ?_ fun _ _ h => h) hs
  rintro v s' ⟨M', I', S', -, hs', rfl, rfl, rfl⟩
  exact callWith_K0 (S'.keepK ok) hq (wpAny_mono (h mf H s' hm S') (fun v s3 h => h.trans (fun _ h => h) hs' fun _ _ _ h => h) fun v s3 h => h.trans (fun _ h => h) hs' fun _ _ _ h => h)
theorem E_callB (ok : a.Ok n) {x xp e es pos id} (he : nsIn (hd.heap_39 a.w.params) mainGlobals x = some none) (hv : bootBuiltins x = some (.builtin id)) (hne : x ≠ "__name__") (hk : a.env.kindOf x = some .globalImplicit)
    (h : Es a (e :: es) pos m M I (kCa (.builtin id) X a m I Q) X) (hn : notStar e = true := by rfl) (hn2 : (backTo pos (starEach es a.env)).any (·.1) = false := by rfl) (hx : (x == ("__debug__" : Str)) = false := by decide)
    (hs : eval (.Call (.Name x xp) (e :: es) [] pos) a.env = (do callWith pos (← eval (.Name x xp) a.env) [] (backTo pos (starEach (e :: es) a.env)) (backToKw pos (keywordEach [] a.env))) := by rfl) : Ex a (eval (.Call (.Name x xp) (e :: es) [] pos) a.env) m M I Q X := by
  intro mf H s hm S
  refine Call_ (E_builtin (Q := fun v M' I' => v = .builtin id ∧ M' = M ∧ I' = I) (X := X) ok he hv hne hk ⟨rfl, rfl, rfl⟩ hx mf H s hm S |> fun w => wpAny_mono w ?_ fun _ _ h => h) hs
  rintro v s' ⟨M', I', S', -, hs', rfl, rfl, rfl⟩
  refine PyProof.Rows.callWith_builtin1 (wpAny_mono (h mf H s' hm S') ?_ fun v s3 h => h.trans (fun _ h => h) hs' fun _ _ _ h => h) (starEach_cons hn) hn2
  rintro vs s'' ⟨M2, I2, S2, hI, hs2, k⟩
  exact wpAny_mono (k hI mf H s'' hm S2) (fun v s3 h => h.trans hI (hs'.trans hs2) fun _ _ _ h => h) fun v s3 h => h.trans hI (hs'.trans hs2) fun _ _ _ h => h
theorem E_callT (ok : a.Ok n) {x xp e es pos T} (he : nsIn (hd.heap_39 a.w.params) mainGlobals x = some none) (hv : bootBuiltins x = some (.type T)) (hne : x ≠ "__name__") (hk : a.env.kindOf x = some .globalImplicit)
    (h : Es a (e :: es) pos m M I (kCa (.type T) X a m I Q) X) (hn : notStar e = true := by rfl) (hn2 : (backTo pos (starEach es a.env)).any (·.1) = false := by rfl) (hx : (x == ("__debug__" : Str)) = false := by decide)
    (hs : eval (.Call (.Name x xp) (e :: es) [] pos) a.env = (do callWith pos (← eval (.Name x xp) a.env) [] (backTo pos (starEach (e :: es) a.env)) (backToKw pos (keywordEach [] a.env))) := by rfl) : Ex a (eval (.Call (.Name x xp) (e :: es) [] pos) a.env) m M I Q X := by
  intro mf H s hm S
  refine Call_ (E_builtin (Q := fun v M' I' => v = .type T ∧ M' = M ∧ I' = I) (X := X) ok he hv hne hk ⟨rfl, rfl, rfl⟩ hx mf H s hm S |> fun w => wpAny_mono w ?_ fun _ _ h => h) hs
  rintro v s' ⟨M', I', S', -, hs', rfl, rfl, rfl⟩
  refine Pv.callWith_type1 (wpAny_mono (h mf H s' hm S') ?_ fun v s3 h => h.trans (fun _ h => h) hs' fun _ _ _ h => h) (starEach_cons hn) hn2
  rintro vs s'' ⟨M2, I2, S2, hI, hs2, k⟩
  exact wpAny_mono (k hI mf H s'' hm S2) (fun v s3 h => h.trans hI (hs'.trans hs2) fun _ _ _ h => h) fun v s3 h => h.trans hI (hs'.trans hs2) fun _ _ _ h => h

/-- a method's call: the base, the method, its arguments -/
theorem E_method {o e es pos apos id} {name : Str} (h : Ex a (eval o a.env) m M I (kMe (e :: es) pos id name X a m I Q) X) (hn : notStar e = true := by rfl) (hn2 : (backTo pos (starEach es a.env)).any (·.1) = false := by rfl)
    (pl : Sem Bool) (hs : eval (.Call (.Attribute o name apos) (e :: es) [] pos) a.env = (do
          let ov ← eval o a.env
          standAt (Pos.atName apos)
          let (f, first) ← holding [ov] (getMethod ov name pl)
          callWith pos f first (backTo pos (starEach (e :: es) a.env)) [])) : Ex a (eval (.Call (.Attribute o name apos) (e :: es) [] pos) a.env) m M I Q X := by
  intro mf H s hm S
  refine MethodCall_ (pl := pl) (wpAny_mono (h mf H s hm S) ?_ fun _ _ h => h) hs
  rintro v s' ⟨M', I', S', hI, hs', first, k1, k2⟩
  refine wpAny_mono (k1 (fun fx M'' I'' => fx = (.builtin id, first) ∧ M'' = M' ∧ I'' = I') ⟨rfl, rfl, rfl⟩ pl mf H s' hm S') ?_ fun v s3 h => h.trans hI hs' fun _ _ _ h => h
  rintro fx s'' ⟨M2, I2, S2, -, hs2, rfl, rfl, rfl⟩
  refine callWith_method1 (wpAny_mono (k2 hI mf H s'' hm S2) ?_ fun v s3 h => h.trans hI (hs'.trans hs2) fun _ _ _ h => h) (starEach_cons hn) hn2
  rintro vs s3 ⟨M3, I3, S3, hI3, hs3, k⟩
  have hI3 := hI.trans hI3
  have hs3 := (hs'.trans hs2).trans hs3
  exact wpAny_mono (k hI3 mf H s3 hm S3) (fun v s3 h => h.trans hI3 hs3 fun _ _ _ h => h) fun v s3 h => h.trans hI3 hs3 fun _ _ _ h => h
end
end
section
noncomputable def bindM (binds : List (Str × Value)) (m : Map) : Map := binds.foldl (fun m p => upd m p.1 p.2) m

theorem bindL_at {k : Str → Option NameKind} {x : Str} (hx : k x = some .local) : ∀ (binds : List (Str × Value)) (m m' : Map), m x = m' x → bindL k binds m x = bindM binds m' x
  | [], _, _, h => h
  | (y, v) :: r, m, m', h => by
    show bindL k r _ x = bindM r _ x
    refine bindL_at hx r _ _ ?_
    by_cases e : y = x
    · subst e; simp [hx, upd]
    · by_cases q : k y = some .local
      · simp [q, upd, Ne.symm e, h]
      · simp [q, upd, Ne.symm e, h]
theorem bindC_at {k : Str → Option NameKind} {x : Str} (hx : k x = some .cell) : ∀ (binds : List (Str × Value)) (m m' : Map), m x = m' x → bindC k binds m x = bindM binds m' x
  | [], _, _, h => h
  | (y, v) :: r, m, m', h => by
    show bindC k r _ x = bindM r _ x
    refine bindC_at hx r _ _ ?_
    by_cases e : y = x
    · subst e; simp [hx, upd]
    · by_cases q : k y = some .local
      · simp [q, upd, Ne.symm e, h]
      · simp [q, upd, Ne.symm e, h]
theorem cells_map {cm : Map} {cs : List (Str × Addr)} {cells : Led} (h : CellsAre cm cs cells) : cells.map (·.1) = cs.map (·.2) := by
  induction h with
  | nil => rfl
  | cons _ _ ih => simp only [List.map_cons, ih]
theorem cells_at {cm : Map} {cs : List (Str × Addr)} {cells : Led} (h : CellsAre cm cs cells) {x : Str} {c : Addr} (e : cs.lookup x = some c) : ∃ o, (c, o) ∈ cells ∧ o.data = .cell (cm x) := by
  induction h with
  | nil => cases e
  | @cons y d o cs cells hd _ ih =>
    rw [List.lookup_cons] at e
    by_cases q : (x == y) = true
    · rw [q] at e; cases e
      have : x = y := by simpa using q
      subst this
      exact ⟨o, .head _, hd⟩
    · have q' : (x == y) = false := by simpa using q
      rw [q'] at e
      obtain ⟨o', h1, h2⟩ := ih e
      exact ⟨o', .tail _ h1, h2⟩
theorem cellsFrom_nodup : ∀ (names : List (Str × NameKind)) (n lo : Nat) (acc : List (Str × Addr)), (acc.map (·.2)).Nodup → (∀ p ∈ acc, p.2 < n ∧ lo ≤ p.2) → lo ≤ n →
    ((cellsFrom n names acc).map (·.2)).Nodup ∧ ∀ p ∈ cellsFrom n names acc, lo ≤ p.2
  | [], _, _, _, h, hb, _ => ⟨h, fun p hp => (hb p hp).2⟩
  | (y, k) :: r, n, lo, acc, h, hb, hl => by
    unfold cellsFrom
    split
    · refine cellsFrom_nodup r (n + 1) lo _ ?_ ?_ (Nat.le_succ_of_le hl)
      · rw [List.map_cons, List.nodup_cons]
        refine ⟨fun q => ?_, h⟩
        obtain ⟨p, hp, e⟩ := List.mem_map.mp q
        have := (hb p hp).1
        rw [e] at this
        exact Nat.lt_irrefl _ this
      · intro p hp
        rcases List.mem_cons.mp hp with rfl | hp
        · exact ⟨Nat.lt_succ_self _, hl⟩
        · exact ⟨Nat.lt_succ_of_lt (hb p hp).1, (hb p hp).2⟩
    · exact cellsFrom_nodup r n lo acc h hb hl

/-- a call's code -/
noncomputable def AfterR (a : Act) (mf : Map) (H I : Led) (s : Shared) (Q X : Post Value) (r : Result) (s' : Shared) : Prop := match r with
  | .ok (.ret v) => After a mf H I s Q v s'
  | .ok _ => False
  | .error e => After a mf H I s X e s'
noncomputable def Cx (a : Act) (c : Code) (m : Map) (M I : Led) (Q X : Post Value) : Prop :=
  ∀ mf H s, Holds a mf H m → Sit a mf H M I s → codeAny (model PG a.w) a.A c (AfterR a mf H I s Q X) s

section
variable {X : Post Value} {a : Act} {m : Map} {M I : Led} {Q : Post Value} {n : Nat}
theorem Ex.ofCx {f : Value} {args : List Value} (h : Cx a (.call f ⟨args, []⟩) m M I Q X) : Ex a (call f args) m M I Q X := by
  intro mf H s hm S
  refine wpAny_call (codeAny_mono (h mf H s hm S) ?_)
  intro r s' k
  cases r with
  | ok f => cases f <;> exact k
  | error e => exact k

noncomputable def retOf : Flow → Value
  | .ret v => v
  | _ => .none

abbrev kRt (Q : Post Value) : PostS := fun fl _ M' I' => Q (retOf fl) M' I'
structure Fm (b : Act) (scope : Scope) : Prop where
  loc : b.env.locals = b.L
  fe : b.fenv = b.env
  sc : b.env.scope = scope
  ce : b.env.cells = cellsFrom (b.L + 1) scope.names []
  inj : ∀ x y c, b.env.cells.lookup x = some c → b.env.cells.lookup y = some c → x = y
theorem lookup_inj : ∀ {cs : List (Str × Addr)}, (cs.map (·.2)).Nodup → ∀ {x y : Str} {c : Addr}, cs.lookup x = some c → cs.lookup y = some c → x = y
  | (z, d) :: r, h, x, y, c, h1, h2 => by
    rw [List.map_cons, List.nodup_cons] at h
    have mem : ∀ {w : Str}, r.lookup w = some d → False := fun e => h.1 (List.mem_map.mpr ⟨_, mem_of_lookup e, rfl⟩)
    rw [List.lookup_cons] at h1 h2
    by_cases p : (x == z) = true <;> by_cases q : (y == z) = true
    · exact (eq_of_beq p).trans (eq_of_beq q).symm
    · rw [p] at h1
      rw [Bool.eq_false_iff.mpr q] at h2
      cases h1
      exact (mem h2).elim
    · rw [q] at h2
      rw [Bool.eq_false_iff.mpr p] at h1
      cases h2
      exact (mem h1).elim
    · rw [Bool.eq_false_iff.mpr p] at h1
      rw [Bool.eq_false_iff.mpr q] at h2
      exact lookup_inj h.2 h1 h2

theorem Cx_call (ok : a.Ok (n + 1)) {name qual : Str} {params : Arguments} {body : List Stmt} {scope : Scope} {dV kV doc pm cdv ct oc : Value} {an od : Option Addr} {osl : Array (Option Value)} {f : Addr} {args : List Value} {binds : List (Str × Value)}
    (ho : (hd.heap_39 a.w.params).lookup f = some ⟨oc, od, .func (fnOf name qual params body scope dV kV doc pm an cdv ct), osl⟩) (hcd : codeIn (hd.heap_39 a.w.params) cdv qual = true)
    (hbind : ∀ s : Shared, (hd.heap_39 a.w.params).In s.heap → BindsTo s (fnOf name qual params body scope dV kV doc pm an cdv ct) ⟨args, []⟩ binds)
    (hkind : (binds.all fun y => scope.names.lookup y.1 == some .local || scope.names.lookup y.1 == some .cell) = true) (hnd : ((cellsFrom 0 scope.names []).map (·.1)).Nodup)
    (hco : scope.isCoroutine = false) (hgen : scope.isGenerator = false) (hk : scope.kind = .function)
    (h : ∀ b : Act, b.Ok n → b.w = a.w → Fm b scope → Xs b (execs body b.env) (bindM binds fun _ => none) M I (kRt Q) noX) : Cx a (.call (.ref f) ⟨args, []⟩) m M I Q X := by
  intro mf H s hm S
  obtain ⟨p, l, me, mg, mb, T⟩ := ok.T
  refine code_defC ok.B S.F ok.X S.N T ok.hA ok.hf ok.hk ho hcd (by have := ok.hd; have : recursionLimit = 1000 := rfl; omega) (hbind s (S.keepK ok)) hkind hnd ?_ hco hgen hk
  intro g L' h₁ tk cells FG F' N' Y B' X' T' fr
  let env' := envOfC qual scope L' f cdv
  let b : Act := ⟨a.w, a.A.deeper env', a.A, a.base, a.fenv :: a.outer, g, L', env', env'⟩
  have okb : b.Ok n := {
    X := X'
    T := ⟨p, l, me, mg, mb, T'⟩
    XB := ok.XB
    TB := ok.TB
    B := B'
    hA := Around.frames_deeper ok.hA
    hf := rfl
    hk := hk
    hh := ok.hh
    hd := by show a.A.depth + 1 + 2 * n ≤ 900; have := ok.hd; omega
    hu := by show a.A.units + 3 + 8 * n ≤ 9000; have := ok.hu; omega
    ek := hk
    eg := rfl
    eb := rfl }
  have cn := cellsFrom_nodup scope.names (L' + 1) (L' + 1) [] .nil (fun _ h => nomatch h) (Nat.le_refl _)
  have hb : Holds b (bindL env'.kindOf binds fun _ => none) cells (bindM binds fun _ => none) := by
    refine ⟨fun x v e q => .inl ⟨rfl, ?_⟩, fun x q => ?_⟩
    · rw [← e]; exact bindL_at q binds _ _ rfl
    · have c0 : (scope.names.lookup x = some .cell) := q
      obtain ⟨c, hc⟩ := Option.isSome_iff_exists.mp (cellsFrom_some scope.names (L' + 1) [] (.inl c0))
      obtain ⟨o, h1, h2⟩ := cells_at Y hc
      refine ⟨c, o, _, hc, h1, h2, fun v e => ?_⟩
      rw [← e]
      exact bindC_at (k := env'.kindOf) q binds _ _ rfl
  have Sb : Sit b (bindL env'.kindOf binds fun _ => none) (cells ++ H) M I { s with heap := h₁, toks := tk } := by
    refine ⟨F', ?_, ?_⟩
    · rw [List.append_assoc]; exact N'
    · rw [List.append_assoc, List.map_append, List.nodup_append]
      refine ⟨by rw [cells_map Y]; exact cn.1, S.D, ?_⟩
      intro x hx y hy e
      rw [cells_map Y] at hx
      obtain ⟨c, hc, rfl⟩ := List.mem_map.mp hx
      obtain ⟨q, hq, rfl⟩ := List.mem_map.mp hy
      have h1 := cn.2 c hc
      have h2 := fr q hq
      rw [e] at h1
      exact Nat.lt_irrefl _ (Nat.lt_of_lt_of_le h2 (Nat.le_of_succ_le h1))
  refine wpAny_mono (h b okb rfl ⟨rfl, rfl, rfl, rfl, fun x y c h1 h2 => lookup_inj cn.1 h1 h2⟩ _ cells H _ hb Sb) ?_ ?_
  · rintro fl s' ⟨mf', G', m', M', I', -, S', hI, hs, k⟩
    have N2 : News g L' s'.heap (H ++ (M' ++ I')) := fun q hq => S'.N q (by rw [List.append_assoc]; exact List.mem_append_right _ hq)
    refine ⟨L', mf', H ++ (M' ++ I'), S'.F, N2, fun F3 N3 => ?_⟩
    have D3 : ((H ++ (M' ++ I')).map (·.1)).Nodup := by
      have := S'.D
      rw [List.append_assoc, List.map_append, List.nodup_append] at this
      exact this.2.1
    have k' : After a mf H I s Q (retOf fl) s' := ⟨M', I', ⟨F3, N3, D3⟩, hI, hs, k⟩
    cases fl <;> exact k'
  · rintro e s' ⟨mf', G', M', I', S', hI, hs, k⟩
    exact k.elim

theorem Ex_call (ok : a.Ok (n + 1)) {name qual : Str} {params : Arguments} {body : List Stmt} {scope : Scope} {dV kV doc pm cdv ct oc : Value} {an od : Option Addr} {osl : Array (Option Value)} {f : Addr} {args : List Value} {binds : List (Str × Value)}
    (ho : (hd.heap_39 a.w.params).lookup f = some ⟨oc, od, .func (fnOf name qual params body scope dV kV doc pm an cdv ct), osl⟩) (hcd : codeIn (hd.heap_39 a.w.params) cdv qual = true)
    (hbind : ∀ s : Shared, (hd.heap_39 a.w.params).In s.heap → BindsTo s (fnOf name qual params body scope dV kV doc pm an cdv ct) ⟨args, []⟩ binds)
    (hkind : (binds.all fun y => scope.names.lookup y.1 == some .local || scope.names.lookup y.1 == some .cell) = true) (hnd : ((cellsFrom 0 scope.names []).map (·.1)).Nodup)
    (hco : scope.isCoroutine = false) (hgen : scope.isGenerator = false) (hk : scope.kind = .function)
    (h : ∀ b : Act, b.Ok n → b.w = a.w → Fm b scope → Xs b (execs body b.env) (bindM binds fun _ => none) M I (kRt Q) noX) : Ex a (call (.ref f) args) m M I Q X :=
  .ofCx (Cx_call ok ho hcd hbind hkind hnd hco hgen hk h)

noncomputable def Act.under (a : Act) (A' : Around) : Act := ⟨a.w, A', a.A₀, a.base, a.outer, a.h₀, a.L, a.env, a.fenv⟩
theorem Sit.to {A' : Around} {mf H s} (S : Sit a mf H M I s) : Sit (a.under A') mf H M I s := ⟨S.F, S.N, S.D⟩
theorem Sit.from {A' : Around} {mf H s} (S : Sit (a.under A') mf H M I s) : Sit a mf H M I s := ⟨S.F, S.N, S.D⟩
theorem After.from {α : Type} {A' : Around} {mf H s s'} {Q : Post α} {v : α} (h : After (a.under A') mf H I s Q v s') : After a mf H I s Q v s' := by
  obtain ⟨M', I', S, r1, r2, r3⟩ := h
  exact ⟨M', I', S.from, r1, r2, r3⟩

/-- a class of the text with an __init__ of its own -/
theorem Ex_make (ok : a.Ok (n + 2)) {C fI : Addr} {args : List Value} (hm : makesIn (hd.heap_39 a.w.params) C = true) (hi : findIn (hd.heap_39 a.w.params) (.ref C) "__init__" = some (some (.ref fI))) (hf : isFn (hd.heap_39 a.w.params) (.ref fI) = true)
    (h : ∀ (a' : Act) x dx, a'.w = a.w → a'.Ok (n + 1) → Cx a' (.call (.ref fI) ⟨.ref x :: args, []⟩) m ((x, instObj C dx) :: (dx, dictOf [] 0) :: M) I (fun v M' I' => v = .none ∧ Q (.ref x) M' I') X) : Ex a (call (.ref C) args) m M I Q X := by
  intro mf H s hm' S
  refine call_cls S.F ok.X S.N hm hi hf fun x dx h' F' N' fr lt => ?_
  have ok' : (a.under (a.A.under (.builtin "type.__call__" ⟨.ref C :: args, []⟩))).Ok (n + 1) := {
    X := ok.X
    T := ok.T
    XB := ok.XB
    TB := ok.TB
    B := ok.B
    hA := ok.hA
    hf := ok.hf
    hk := ok.hk
    hh := ok.hh
    hd := by show a.A.depth + 1 + 2 * (n + 1) ≤ 900; have := ok.hd; omega
    hu := by show a.A.units + 1 + 8 * (n + 1) ≤ 9000; have := ok.hu; omega
    ek := ok.ek
    eg := ok.eg
    eb := ok.eb }
  have S1 : Sit a mf H ((dx, dictOf [] 0) :: M) I { s with heap := h' } := S.addM F' (fun q hq => N' q (.tail _ hq)) fr
  have S2 : Sit a mf H ((x, instObj C dx) :: (dx, dictOf [] 0) :: M) I { s with heap := h' } := S1.addM F' (fun q hq => by
    rcases List.mem_cons.mp hq with rfl | hq
    · exact N' _ (.head _)
    · exact S1.N q hq) (fun q hq => by
    rcases List.mem_append.mp hq with hq | hq
    · exact Nat.lt_trans (fr q (List.mem_append_left _ hq)) lt
    · rcases List.mem_cons.mp hq with rfl | hq
      · exact lt
      · exact Nat.lt_trans (fr q (List.mem_append_right _ hq)) lt)
  refine codeAny_mono (h (a.under (a.A.under (.builtin "type.__call__" ⟨.ref C :: args, []⟩))) x dx rfl ok' mf H _ ⟨hm'.loc, hm'.cell⟩ S2.to) ?_
  intro r s' k
  cases r with
  | error e => obtain ⟨M', I', S, r1, r2, r3⟩ := k; exact ⟨M', I', S.from, r1, r2, r3⟩
  | ok f =>
    cases f with
    | ret v =>
      obtain ⟨M', I', S', hI, hs, e, q⟩ := k
      exact ⟨e, M', I', S'.from, hI, hs, q⟩
    | _ => exact k

/-! statements of a function's own block -/
variable {P : PostS} {scope : Scope}
theorem Holds.set {mf : Map} {G : Led} {x : Str} {v : Value} {s : Shared} {R : Led} (fm : Fm a scope) (hm : Holds a mf G m) (S : Sit a mf (G ++ R) M I s) (hk : a.env.kindOf x = some .local) : Holds a (fun y => if y = x then some v else mf y) G (upd m x v) := by
  refine ⟨fun y u e q => .inl ⟨fm.loc, ?_⟩, fun y q => ?_⟩
  · unfold upd at e
    by_cases h : y = x
    · subst h; simpa using e
    · rw [if_neg h] at e
      show (if y = x then some v else mf y) = some u
      rw [if_neg h]
      rcases hm.loc y u e q with ⟨-, r⟩ | ⟨oC, mc, h1, -⟩
      · exact r
      · have := (S.N _ (List.mem_append_left _ (List.mem_append_left _ h1))).2.1
        exact absurd fm.loc this
  · have h : y ≠ x := fun h => by rw [h, hk] at q; cases q
    obtain ⟨c, o, v₀, h1, h2, h3, h4⟩ := hm.cell y q
    refine ⟨c, o, v₀, h1, h2, h3, fun u e => h4 u ?_⟩
    unfold upd at e
    rwa [if_neg h] at e

theorem store_local (ok : a.Ok n) (fm : Fm a scope) {x : Str} {v : Value} {R : Led} {mf : Map} {G : Led} {s : Shared} (hm : Holds a mf G m) (S : Sit a mf (G ++ R) M I s) (hk : a.env.kindOf x = some .local)
    {Q' : Unit → Shared → Prop} {E : Value → Shared → Prop} (h : ∀ mf' G' s', Holds a mf' G' (upd m x v) → Sit a mf' (G' ++ R) M I s' → Same s s' → Q' () s') : wpAny (model PG a.w) a.A (storeName a.env x v) Q' E s := by
  refine wpAny_storeName_local hk (fm.loc ▸ S.F.ns) (fun h' hn hs => ?_) (by rw [ok.ek]; rfl)
  rw [fm.loc] at hn hs
  exact h _ _ _ (hm.set fm S hk) ⟨S.F.set hn hs, S.N.set hs, S.D⟩ ⟨rfl, rfl, rfl⟩

theorem store_cell (ok : a.Ok n) (fm : Fm a scope) {x : Str} {v : Value} {R : Led} {mf : Map} {G : Led} {s : Shared} (hm : Holds a mf G m) (S : Sit a mf (G ++ R) M I s) (hk : a.env.kindOf x = some .cell)
    {Q' : Unit → Shared → Prop} {E : Value → Shared → Prop} (h : ∀ mf' G' s', Holds a mf' G' (upd m x v) → Sit a mf' (G' ++ R) M I s' → Same s s' → Q' () s') : wpAny (model PG a.w) a.A (storeName a.env x v) Q' E s := by
  obtain ⟨c, o, v₀, h1, h2, h3, h4⟩ := hm.cell x hk
  obtain ⟨l, r, e⟩ := List.append_of_mem h2
  have hmem := S.N (c, o) (List.mem_append_left _ (List.mem_append_left _ h2))
  refine wpAny_storeName_cell ok.ek hk h1 ⟨o, hmem.1, h3⟩ fun h' hv hs => ?_
  obtain ⟨o', ho', hd'⟩ := hv
  subst e
  have D := S.D
  have ne : ∀ q ∈ l ++ (r ++ R ++ (M ++ I)), q.1 ≠ c := by
    rw [show (l ++ (c, o) :: r ++ R ++ (M ++ I)) = l ++ (c, o) :: (r ++ R ++ (M ++ I)) by simp] at D
    rw [List.map_append, List.nodup_append] at D
    obtain ⟨d1, d2, d3⟩ := D
    rw [List.map_cons, List.nodup_cons] at d2
    intro q hq e
    rcases List.mem_append.mp hq with hq | hq
    · exact d3 q.1 (List.mem_map_of_mem hq) c (.head _) e
    · exact d2.1 (List.mem_map.mpr ⟨q, hq, e⟩)
  refine h mf (l ++ (c, o') :: r) _ ⟨fun y u e q => ?_, fun y q => ?_⟩ ⟨?_, fun q hq => ?_, ?_⟩ ⟨rfl, rfl, rfl⟩
  · have hy : y ≠ x := fun h => by rw [h, hk] at q; cases q
    unfold upd at e
    rw [if_neg hy] at e
    rcases hm.loc y u e q with r' | ⟨oC, mc, h5, -⟩
    · exact .inl r'
    · have := (S.N _ (List.mem_append_left _ (List.mem_append_left _ h5))).2.1
      exact absurd fm.loc this
  · by_cases hy : y = x
    · subst hy
      refine ⟨c, o', some v, h1, by simp, hd', fun u e => ?_⟩
      unfold upd at e
      simpa using e
    · obtain ⟨c2, o2, v2, g1, g2, g3, g4⟩ := hm.cell y q
      have hc : c2 ≠ c := fun e => hy (fm.inj y x c (e ▸ g1) h1)
      refine ⟨c2, o2, v2, g1, ?_, g3, fun u e => g4 u ?_⟩
      · rcases List.mem_append.mp g2 with g | g
        · exact List.mem_append_left _ g
        · rcases List.mem_cons.mp g with g | g
          · cases g; exact absurd rfl hc
          · exact List.mem_append_right _ (.tail _ g)
      · unfold upd at e
        rwa [if_neg hy] at e
  · exact S.F.change hs hmem.2.1 hmem.2.2
  · by_cases hq' : q = (c, o')
    · subst hq'
      exact ⟨ho', hmem.2⟩
    · have hq2 : q ∈ l ++ (r ++ R ++ (M ++ I)) := by
        simp only [List.append_assoc, List.mem_append, List.mem_cons, List.cons_append] at hq ⊢
        rcases hq with hq | hq | hq | hq | hq | hq
        · exact .inl hq
        · exact absurd hq hq'
        · exact .inr (.inl hq)
        · exact .inr (.inr (.inl hq))
        · exact .inr (.inr (.inr (.inl hq)))
        · exact .inr (.inr (.inr (.inr hq)))
      have hq3 : q ∈ l ++ (c, o) :: r ++ R ++ (M ++ I) := by
        simp only [List.append_assoc, List.mem_append, List.mem_cons, List.cons_append] at hq2 ⊢
        rcases hq2 with hq | hq | hq | hq | hq
        · exact .inl hq
        · exact .inr (.inr (.inl hq))
        · exact .inr (.inr (.inr (.inl hq)))
        · exact .inr (.inr (.inr (.inr (.inl hq))))
        · exact .inr (.inr (.inr (.inr (.inr hq))))
      have z := S.N q hq3
      exact ⟨hs.extBut _ _ (ne q hq2) z.1, z.2⟩
  · simpa using S.D

noncomputable def KL (a : Act) (x : Str) : Prop := a.env.kindOf x = some .local ∨ a.env.kindOf x = some .cell
theorem store_any (ok : a.Ok n) (fm : Fm a scope) {x : Str} {v : Value} {R : Led} {mf : Map} {G : Led} {s : Shared} (hm : Holds a mf G m) (S : Sit a mf (G ++ R) M I s) (hk : KL a x)
    {Q' : Unit → Shared → Prop} {E : Value → Shared → Prop} (h : ∀ mf' G' s', Holds a mf' G' (upd m x v) → Sit a mf' (G' ++ R) M I s' → Same s s' → Q' () s') : wpAny (model PG a.w) a.A (storeName a.env x v) Q' E s :=
  hk.elim (fun hk => store_local ok fm hm S hk h) fun hk => store_cell ok fm hm S hk h

/-! statements -/
abbrev kAs (x : Str) (m : Map) (P : PostS) : Post Value := fun v M' I' => P .next (upd m x v) M' I'
abbrev kNx {α : Type} (m : Map) (P : PostS) : Post α := fun _ M' I' => P .next m M' I'
abbrev kA2 (attr : Str) (X : Post Value) (a : Act) (m : Map) (I : Led) (v : Value) (P : PostS) : Post Value := fun ov M'' I'' => I ⊆ I'' → Ex a (setAttr ov attr v) m M'' I'' (kNx m P) X
abbrev kA1 (o : Expr) (attr : Str) (X : Post Value) (a : Act) (m : Map) (I : Led) (P : PostS) : Post Value := fun v M' I' => I ⊆ I' → Ex a (eval o a.env) m M' I' (kA2 attr X a m I v P) X
abbrev kS3 (X : Post Value) (a : Act) (m : Map) (I : Led) (v : Value) (ov : Value) (P : PostS) : Post Value := fun iv M3 I3 => I ⊆ I3 → Ex a (setItem ov iv v) m M3 I3 (kNx m P) X
abbrev kS2 (i : Expr) (X : Post Value) (a : Act) (m : Map) (I : Led) (v : Value) (P : PostS) : Post Value := fun ov M'' I'' => I ⊆ I'' → Ex a (eval i a.env) m M'' I'' (kS3 X a m I v ov P) X
abbrev kS1 (o : Expr) (i : Expr) (X : Post Value) (a : Act) (m : Map) (I : Led) (P : PostS) : Post Value := fun v M' I' => I ⊆ I' → Ex a (eval o a.env) m M' I' (kS2 i X a m I v P) X
abbrev kAg (x : Str) (op : Operator) (X : Post Value) (a : Act) (m : Map) (I : Led) (v₀ : Value) (P : PostS) : Post Value := fun v M' I' => I ⊆ I' → Ex a (inplaceOp op v₀ v) m M' I' (kAs x m P) X
abbrev kXi (b : List Stmt) (o : List Stmt) (X : Post Value) (a : Act) (m : Map) (I : Led) (P : PostS) : Post Bool := fun c M' I' => I ⊆ I' → if c then Xs a (execs b a.env) m M' I' P X else Xs a (execs o a.env) m M' I' P X
abbrev kRe (m : Map) (P : PostS) : Post Value := fun v M' I' => P (.ret v) m M' I'
theorem X_assign (ok : a.Ok n) (fm : Fm a scope) {x xp value pos} (hk : KL a x) (hsw : swapsWith value (some (.Name x xp)) pos.line a.env = pure false)
    (h : Ex a (eval value a.env) m M I (kAs x m P) X) : Xs a (exec (.Assign [.Name x xp] value pos) a.env) m M I P X := by
  intro mf G R s hm S
  refine wpAny_Assign_Name (wpAny_mono (h mf (G ++ R) s hm.more S) ?_ ?_) hsw
  · rintro v s' ⟨M', I', S', hI, hs, k⟩
    exact store_any ok fm hm S' hk fun mf' G' s'' hm' S'' hs' => ⟨mf', G', _, M', I', hm', S'', hI, hs.trans hs', k⟩
  · rintro v s' ⟨M', I', S', hI, hs, k⟩
    exact ⟨mf, G, M', I', S', hI, hs, k⟩

theorem X_attr {o attr apos value pos} (hsw : swapsWith value (some (.Attribute o attr apos)) pos.line a.env = pure false)
    (h : Ex a (eval value a.env) m M I (kA1 o attr X a m I P) X) : Xs a (exec (.Assign [.Attribute o attr apos] value pos) a.env) m M I P X := by
  intro mf G R s hm S
  refine plainObj_wpAny_Assign_Attribute (wpAny_mono (h mf (G ++ R) s hm.more S) ?_ ?_) hsw
  · rintro v s' ⟨M', I', S', hI, hs, k⟩
    refine wpAny_mono (k hI mf (G ++ R) s' hm.more S') ?_ ?_
    · rintro ov s2 ⟨M2, I2, S2, hI2, hs2, k2⟩
      have hI2 := hI.trans hI2
      have hs2 := hs.trans hs2
      refine wpAny_mono (k2 hI2 mf (G ++ R) s2 hm.more S2) ?_ ?_
      · rintro _ s3 ⟨M3, I3, S3, hI3, hs3, k3⟩
        exact ⟨mf, G, m, M3, I3, hm, S3, hI2.trans hI3, hs2.trans hs3, k3⟩
      · rintro _ s3 ⟨M3, I3, S3, hI3, hs3, k3⟩
        exact ⟨mf, G, M3, I3, S3, hI2.trans hI3, hs2.trans hs3, k3⟩
    · rintro _ s3 ⟨M3, I3, S3, hI3, hs3, k3⟩
      exact ⟨mf, G, M3, I3, S3, hI.trans hI3, hs.trans hs3, k3⟩
  · rintro v s' ⟨M', I', S', hI, hs, k⟩
    exact ⟨mf, G, M', I', S', hI, hs, k⟩

theorem X_sub {o i ipos value pos} (hsw : swapsWith value (some (.Subscript o i ipos)) pos.line a.env = pure false)
    (h : Ex a (eval value a.env) m M I (kS1 o i X a m I P) X) : Xs a (exec (.Assign [.Subscript o i ipos] value pos) a.env) m M I P X := by
  intro mf G R s hm S
  refine wpAny_Assign_Subscript (wpAny_mono (h mf (G ++ R) s hm.more S) ?_ ?_) hsw
  · rintro v s' ⟨M', I', S', hI, hs, k⟩
    refine wpAny_mono (k hI mf (G ++ R) s' hm.more S') ?_ ?_
    · rintro ov s2 ⟨M2, I2, S2, hI2, hs2, k2⟩
      have hI2 := hI.trans hI2
      have hs2 := hs.trans hs2
      refine wpAny_mono (k2 hI2 mf (G ++ R) s2 hm.more S2) ?_ ?_
      · rintro iv s3 ⟨M3, I3, S3, hI3, hs3, k3⟩
        have hI3 := hI2.trans hI3
        have hs3 := hs2.trans hs3
        refine wpAny_mono (k3 hI3 mf (G ++ R) s3 hm.more S3) ?_ ?_
        · rintro _ s4 ⟨M4, I4, S4, hI4, hs4, k4⟩
          exact ⟨mf, G, m, M4, I4, hm, S4, hI3.trans hI4, hs3.trans hs4, k4⟩
        · rintro _ s4 ⟨M4, I4, S4, hI4, hs4, k4⟩
          exact ⟨mf, G, M4, I4, S4, hI3.trans hI4, hs3.trans hs4, k4⟩
      · rintro _ s3 ⟨M3, I3, S3, hI3, hs3, k3⟩
        exact ⟨mf, G, M3, I3, S3, hI2.trans hI3, hs2.trans hs3, k3⟩
    · rintro _ s3 ⟨M3, I3, S3, hI3, hs3, k3⟩
      exact ⟨mf, G, M3, I3, S3, hI.trans hI3, hs.trans hs3, k3⟩
  · rintro v s' ⟨M', I', S', hI, hs, k⟩
    exact ⟨mf, G, M', I', S', hI, hs, k⟩

theorem X_aug (ok : a.Ok n) (fm : Fm a scope) {x xp op value pos} (hk : a.env.kindOf x = some .local) {v₀ : Value} (hv : m x = some v₀)
    (h : Ex a (eval value a.env) m M I (kAg x op X a m I v₀ P) X) : Xs a (exec (.AugAssign (.Name x xp) op value pos) a.env) m M I P X := by
  intro mf G R s hm S
  refine wpAny_AugAssign_Name (wpAny_mono (L_local (Q := fun v M' I' => v = v₀ ∧ M' = M ∧ I' = I) (X := X) ok hv hk ⟨rfl, rfl, rfl⟩ mf (G ++ R) s hm.more S) ?_ ?_)
  · rintro v s1 ⟨M1, I1, S1, -, hs1, rfl, rfl, rfl⟩
    refine wpAny_mono (h mf (G ++ R) s1 hm.more S1) ?_ ?_
    · rintro ov s2 ⟨M2, I2, S2, hI2, hs2, k2⟩
      have hs2 := hs1.trans hs2
      refine wpAny_mono (k2 hI2 mf (G ++ R) s2 hm.more S2) ?_ ?_
      · rintro r s3 ⟨M3, I3, S3, hI3, hs3, k3⟩
        exact store_local ok fm hm S3 hk fun mf' G' s'' hm' S'' hs' => ⟨mf', G', _, M3, I3, hm', S'', hI2.trans hI3, (hs2.trans hs3).trans hs', k3⟩
      · rintro _ s3 ⟨M3, I3, S3, hI3, hs3, k3⟩
        exact ⟨mf, G, M3, I3, S3, hI2.trans hI3, hs2.trans hs3, k3⟩
    · rintro _ s3 ⟨M3, I3, S3, hI3, hs3, k3⟩
      exact ⟨mf, G, M3, I3, S3, hI3, hs1.trans hs3, k3⟩
  · rintro v s' ⟨M', I', S', hI, hs, k⟩
    exact ⟨mf, G, M', I', S', hI, hs, k⟩

theorem X_if {test body orelse pos} (h : Ex a (PySem.isTrue test a.env (eval test a.env)) m M I (kXi body orelse X a m I P) X) : Xs a (exec (.If test body orelse pos) a.env) m M I P X := by
  intro mf G R s hm S
  refine wpAny_If (wpAny_mono (h mf (G ++ R) s hm.more S) ?_ ?_)
  · rintro c s' ⟨M', I', S', hI, hs, k⟩
    cases c with
    | true => exact wpAny_mono (k hI mf G R s' hm S') (fun v s3 h => h.trans hI hs fun _ _ _ _ h => h) fun v s3 h => h.trans hI hs fun _ _ _ h => h
    | false => exact wpAny_mono (k hI mf G R s' hm S') (fun v s3 h => h.trans hI hs fun _ _ _ _ h => h) fun v s3 h => h.trans hI hs fun _ _ _ h => h
  · rintro v s' ⟨M', I', S', hI, hs, k⟩
    exact ⟨mf, G, M', I', S', hI, hs, k⟩

theorem X_return {e pos} (h : Ex a (eval e a.env) m M I (kRe m P) X) : Xs a (exec (.Return (some e) pos) a.env) m M I P X := by
  intro mf G R s hm S
  refine wpAny_Return_some (wpAny_mono (h mf (G ++ R) s hm.more S) ?_ ?_)
  · rintro c s' ⟨M', I', S', hI, hs, k⟩
    exact ⟨mf, G, m, M', I', hm, S', hI, hs, k⟩
  · rintro v s' ⟨M', I', S', hI, hs, k⟩
    exact ⟨mf, G, M', I', S', hI, hs, k⟩
theorem X_continue {pos} (h : P .cont m M I) : Xs a (exec (.Continue pos) a.env) m M I P X :=
  fun mf G R s hm S => wpAny_Continue ⟨mf, G, m, M, I, hm, S, fun _ h => h, .rfl', h⟩
theorem X_expr {e pos} (hi : interactive a.env = false) (hsw : swapsWith e none pos.line a.env = pure false) (h : Ex a (eval e a.env) m M I (kNx m P) X) : Xs a (exec (.Expr e pos) a.env) m M I P X := by
  intro mf G R s hm S
  refine wpAny_Expr_any (wpAny_mono (h mf (G ++ R) s hm.more S) ?_ ?_) hi hsw
  · rintro c s' ⟨M', I', S', hI, hs, k⟩
    exact ⟨mf, G, m, M', I', hm, S', hI, hs, k⟩
  · rintro v s' ⟨M', I', S', hI, hs, k⟩
    exact ⟨mf, G, M', I', S', hI, hs, k⟩
end
end
section
section
variable {X : Post Value} {a : Act} {m : Map} {M I : Led} {P : PostS} {n : Nat} {scope : Scope}

/-- what a loop's turn ends in -/
noncomputable def Turn (P : PostS) (J : Map → Led → Led → Prop) : PostS := fun fl m M I => match fl with
  | .next | .cont => J m M I
  | .brk => P .next m M I
  | .ret v => P (.ret v) m M I

theorem Holds.sub {a : Act} {mf : Map} {H H' : Led} {m : Map} (h : Holds a mf H m) (s : H ⊆ H') : Holds a mf H' m := by
  refine ⟨fun x v e k => ?_, fun x k => ?_⟩
  · rcases h.loc x v e k with q | ⟨oC, mc, q, r⟩
    · exact .inl q
    · exact .inr ⟨oC, mc, s q, r⟩
  · obtain ⟨c, o, v₀, q, q2, r⟩ := h.cell x k
    exact ⟨c, o, v₀, q, s q2, r⟩

theorem drop_mid {G R N : Led} {p : Addr × Obj} (d : (((G ++ p :: R) ++ N).map (·.1)).Nodup) : (((G ++ R) ++ N).map (·.1)).Nodup := by
  simp only [List.append_assoc, List.cons_append, List.map_append, List.map_cons] at d ⊢
  exact d.sublist ((List.Sublist.refl _).append (List.sublist_cons_self _ _))

theorem Sit.drop {mf : Map} {G R : Led} {p : Addr × Obj} {s : Shared} (S : Sit a mf (G ++ p :: R) M I s) : Sit a mf (G ++ R) M I s := by
  refine ⟨S.F, fun q hq => S.N q ?_, drop_mid S.D⟩
  simp only [List.append_assoc, List.mem_append, List.cons_append, List.mem_cons] at hq ⊢
  rcases hq with h | h | h | h
  · exact .inl h
  · exact .inr (.inr (.inl h))
  · exact .inr (.inr (.inr (.inl h)))
  · exact .inr (.inr (.inr (.inr h)))

theorem Sit.off {mf : Map} {G R : Led} {p : Addr × Obj} {s : Shared} (S : Sit a mf (G ++ p :: R) M I s) : ∀ q ∈ (G ++ R) ++ (M ++ I), q.1 ≠ p.1 := by
  have d := S.D
  have e : ((G ++ p :: R) ++ (M ++ I)).Perm (p :: ((G ++ R) ++ (M ++ I))) := by
    simp only [List.append_assoc, List.cons_append]; exact List.perm_middle
  have d := (e.map (·.1)).nodup_iff.mp d
  rw [List.map_cons, List.nodup_cons] at d
  intro q hq h
  exact d.1 (List.mem_map.mpr ⟨q, hq, h⟩)

/-- the iterator has moved on; all else stands -/
theorem Sit.moved {mf : Map} {G R : Led} {it : Addr} {o o' : Obj} {s s' : Shared} (S : Sit a mf (G ++ (it, o) :: R) M I s) (hk : ∀ b ob, b ∉ [it] → s.heap.get? b = some ob → s'.heap.get? b = some ob) (ho : s'.heap.get? it = some o') : Sit a mf (G ++ (it, o') :: R) M I s' := by
  have z := S.N (it, o) (by simp)
  refine ⟨LCg.fr_but S.F hk (Ne.symm z.2.1) z.2.2, fun q hq => ?_, by simpa using S.D⟩
  by_cases h : q = (it, o')
  · subst h; exact ⟨ho, z.2⟩
  · have hq' : q ∈ (G ++ R) ++ (M ++ I) := by
      simp only [List.append_assoc, List.mem_append, List.cons_append, List.mem_cons] at hq ⊢
      rcases hq with h' | h' | h' | h' | h'
      · exact .inl h'
      · exact absurd h' h
      · exact .inr (.inl h')
      · exact .inr (.inr (.inl h'))
      · exact .inr (.inr (.inr h'))
    have y := S.N q (by
      simp only [List.append_assoc, List.mem_append, List.cons_append, List.mem_cons] at hq' ⊢
      rcases hq' with h | h | h | h
      · exact .inl h
      · exact .inr (.inr (.inl h))
      · exact .inr (.inr (.inr (.inl h)))
      · exact .inr (.inr (.inr (.inr h))))
    exact ⟨hk _ _ (by simpa using S.off q hq') y.1, y.2⟩

/-- the objects that a walk leans on, in the ledger, stand in the next heap -/
theorem fp_keep {fp : List Addr} {it : Addr} {o : Obj} {G G' R : Led} {mf mf' : Map} {M M' I I' : Led} {s s' : Shared} (hfp : ∀ b ∈ fp, b = it ∨ ∃ o, (b, o) ∈ I) (S : Sit a mf (G ++ (it, o) :: R) M I s) (S' : Sit a mf' (G' ++ (it, o) :: R) M' I' s') (hI : I ⊆ I') :
    ∀ b ∈ fp, ∀ ob, s.heap.get? b = some ob → s'.heap.get? b = some ob := by
  intro b hb ob e
  rcases hfp b hb with rfl | ⟨o2, h⟩
  · have h1 := (S.N (b, o) (by simp)).1
    have h2 := (S'.N (b, o) (by simp)).1
    rw [e] at h1; cases h1; exact h2
  · have h1 := S.memI h
    have h2 := S'.memI (hI h)
    rw [e] at h1; cases h1; exact h2

theorem for_loop (ok : a.Ok n) (fm : Fm a scope) {x : Str} {xp : Pos} {body : List Stmt} {it : Addr} {k : Nat} {Pv : Nat → Value → Prop} {St : Nat → Heap → Prop} {fp : List Addr}
    (W : Walks PG a.w a.A it fp [it] k Pv St) (hIo : ∀ i h, St i h → ∃ o, h.get? it = some o) (hfp : ∀ b ∈ fp, b = it ∨ ∃ o, (b, o) ∈ I) (hx : a.env.kindOf x = some .local) (J : Nat → Map → Led → Led → Prop)
    (turn : ∀ i v m₁ M₁ I₁, i < k → Pv i v → I ⊆ I₁ → J i m₁ M₁ I₁ → Xs a (execs body a.env) (upd m₁ x v) M₁ I₁ (Turn P (J (i + 1))) noX)
    (done : ∀ m₁ M₁ I₁, I ⊆ I₁ → J k m₁ M₁ I₁ → P .next m₁ M₁ I₁) {mf : Map} {G R : Led} {s : Shared} {o : Obj} (hm : Holds a mf G m) (S : Sit a mf (G ++ (it, o) :: R) M I s) (h0 : J 0 m M I) (hst : St 0 s.heap) :
    codeAny (model PG a.w) a.A (.forLoop (.Name x xp) (.ref it) body [] a.env) (fun r s' => match r with | .ok f => AfterS a R I s P f s' | .error _ => False) s := by
  refine codeAny_forLoop
    (fun q s' => ∃ i mf' G' m' M' I' o', i ≤ k ∧ q = k + 1 - i ∧ St i s'.heap ∧ Holds a mf' G' m' ∧ Sit a mf' (G' ++ (it, o') :: R) M' I' s' ∧ I ⊆ I' ∧ Same s s' ∧ J i m' M' I') ?_ (k + 1)
    ⟨0, mf, G, m, M, I, o, Nat.zero_le _, rfl, hst, hm, S, fun _ h => h, .rfl', h0⟩
  rintro q s' ⟨i, mf', G', m', M', I', o', hi, rfl, hst', hm', S', hI, hs, hJ⟩
  by_cases hlt : i < k
  · refine W.item i _ _ _ hlt hst' fun v h₁ tk₁ hP hst₁ hk₁ => ?_
    obtain ⟨o₁, ho₁⟩ := hIo _ _ hst₁
    have S₁ : Sit a mf' (G' ++ (it, o₁) :: R) M' I' { s' with heap := h₁, toks := tk₁ } := S'.moved hk₁ ho₁
    have hfp' : ∀ b ∈ fp, b = it ∨ ∃ o, (b, o) ∈ I' := fun b hb => (hfp b hb).imp id fun ⟨o, h⟩ => ⟨o, hI h⟩
    refine wpAny_assign_Name (store_local ok fm hm' S₁ hx fun mf2 G2 s2 hm2 S2 hs2 => ?_)
    have hst₂ : St (i + 1) s2.heap := W.frame _ _ _ hst₁ (fp_keep hfp' S₁ S2 fun _ h => h)
    have hss : Same s s2 := hs.trans (Same.trans (s' := { s' with heap := h₁, toks := tk₁ }) ⟨rfl, rfl, rfl⟩ hs2)
    refine wpAny_mono (turn i v m' M' I' hlt hP hI hJ mf2 G2 ((it, o₁) :: R) s2 hm2 S2) ?_ ?_
    · rintro fl s3 ⟨mf3, G3, m3, M3, I3, hm3, S3, hI3, hs3, k3⟩
      have hst₃ : St (i + 1) s3.heap := W.frame _ _ _ hst₂ (fp_keep hfp' S2 S3 hI3)
      have fin : J (i + 1) m3 M3 I3 → ∃ r, r < k + 1 - i ∧ ∃ i mf' G' m' M' I' o', i ≤ k ∧ r = k + 1 - i ∧ St i s3.heap ∧ Holds a mf' G' m' ∧ Sit a mf' (G' ++ (it, o') :: R) M' I' s3 ∧ I ⊆ I' ∧ Same s s3 ∧ J i m' M' I' := fun j =>
        ⟨k + 1 - (i + 1), by omega, i + 1, mf3, G3, m3, M3, I3, o₁, hlt, rfl, hst₃, hm3, S3, hI.trans hI3, hss.trans hs3, j⟩
      cases fl with
      | next => exact fin k3
      | cont => exact fin k3
      | brk => exact ⟨mf3, G3, m3, M3, I3, hm3, S3.drop, hI.trans hI3, hss.trans hs3, k3⟩
      | ret v => exact ⟨mf3, G3, m3, M3, I3, hm3, S3.drop, hI.trans hI3, hss.trans hs3, k3⟩
    · rintro e s3 ⟨mf3, G3, M3, I3, S3, hI3, hs3, k3⟩
      exact k3.elim
  · have hin : i = k := by omega
    subst hin
    refine W.done _ _ _ hst' fun h₁ tk₁ hk₁ => wpAny_execs_nil ?_
    have hit : ∀ b ob, b ∉ [it] → s'.heap.get? b = some ob → h₁.get? b = some ob := hk₁
    have S₁ : Sit a mf' (G' ++ R) M' I' { s' with heap := h₁, toks := tk₁ } := by
      have Sd := S'.drop
      refine ⟨LCg.fr_but S'.F hit (Ne.symm (S'.N (it, o') (by simp)).2.1) (S'.N (it, o') (by simp)).2.2, fun q hq => ?_, Sd.D⟩
      exact ⟨hit _ _ (by simpa using S'.off q hq) (Sd.N q hq).1, (Sd.N q hq).2⟩
    exact ⟨mf', G', m', M', I', hm', S₁, hI, hs.trans ⟨rfl, rfl, rfl⟩, done _ _ _ hI hJ⟩

theorem Sit.push {mf : Map} {G R : Led} {s : Shared} (S : Sit a mf (G ++ R) M I s) (o : Obj) (hf : o.isFreed = false) {s' : Shared} (e : s'.heap = s.heap.push o) : Sit a mf (G ++ (s.heap.objs.size, o) :: R) M I s' := by
  have F' : Fr a.h₀ a.L s'.heap mf := e ▸ S.F.push o
  have N' := S.N.push S.F o hf
  rw [← e] at N'
  have pm : ((G ++ (s.heap.objs.size, o) :: R) ++ (M ++ I)).Perm ((s.heap.objs.size, o) :: ((G ++ R) ++ (M ++ I))) := by
    simp only [List.append_assoc, List.cons_append]; exact List.perm_middle
  exact ⟨F', news_perm pm N', nodup_perm pm (nodup_cons S.D fun q hq => Nat.ne_of_lt (S.fresh q hq))⟩

inductive kFl (x : Str) (body : List Stmt) (a : Act) (m : Map) (P : PostS) (v : Value) (M' I' : Led) : Prop
  | mk (l : Addr) (vs : List Value) (c : Nat) (e : v = .ref l) (hl : (l, Li vs c) ∈ I') (J : Nat → Map → Led → Led → Prop) (j0 : J 0 m M' I')
      (turn : ∀ i v m₁ M₁ I₁, vs[i]? = some v → I' ⊆ I₁ → J i m₁ M₁ I₁ → Xs a (execs body a.env) (upd m₁ x v) M₁ I₁ (Turn P (J (i + 1))) noX)
      (done : ∀ m₁ M₁ I₁, I' ⊆ I₁ → J vs.length m₁ M₁ I₁ → P .next m₁ M₁ I₁)
inductive kFr (x : Str) (body : List Stmt) (a : Act) (m : Map) (P : PostS) (v : Value) (M' I' : Led) : Prop
  | mk (r : Addr) (k : Nat) (t₁ t₂ t₃ : Tok) (e : v = .ref r) (hr : (r, ({ cls := .type "range", data := .fields #[.int 0 t₁, .int (k : Nat) t₂, .int 1 t₃] } : Obj)) ∈ I') (hk : k ≤ 2 ^ 24) (J : Nat → Map → Led → Led → Prop) (j0 : J 0 m M' I')
      (turn : ∀ i t m₁ M₁ I₁, i < k → I' ⊆ I₁ → J i m₁ M₁ I₁ → Xs a (execs body a.env) (upd m₁ x (.int i t)) M₁ I₁ (Turn P (J (i + 1))) noX)
      (done : ∀ m₁ M₁ I₁, I' ⊆ I₁ → J k m₁ M₁ I₁ → P .next m₁ M₁ I₁)
/-- for x in a list that stands -/
theorem X_for_list (ok : a.Ok n) (fm : Fm a scope) {x : Str} {xp : Pos} {iter : Expr} {body : List Stmt} {pos : Pos} (hx : a.env.kindOf x = some .local) (hfs : ∀ x, foldedSetIterable iter a.env x = pure x)
    (h : Ex a (eval iter a.env) m M I (kFl x body a m P) noX) : Xs a (exec (.For (.Name x xp) iter body [] pos) a.env) m M I P X := by
  intro mf G R s hm S
  refine wpAny_For (wpAny_mono (h mf (G ++ R) s hm.more S) ?_ ?_) hfs
  · rintro v s1 ⟨M1, I1, S1, hI, hs, l, vs, c, rfl, hl, J, j0, turn, done⟩
    have hL : s1.heap.IsList l vs.toArray := (At.ofI hl).isList S1
    have hlt : l < s1.heap.objs.size := by obtain ⟨_, e, _⟩ := hL; exact Heap.lt_size e
    refine wpAny_pyIter_list hL ?_
    have S2 := S1.push (o := { cls := .type "list_iterator", data := .fields #[.ref l, .int 0 0] }) rfl (s' := { s1 with heap := s1.heap.push { cls := .type "list_iterator", data := .fields #[.ref l, .int 0 0] } }) rfl
    refine codeAny_mono (for_loop (P := P) ok fm (Walks.list ok.hh s1.heap.objs.size l (Nat.ne_of_lt hlt) vs.toArray) (fun i h st => by obtain ⟨o, e, _⟩ := st.1; exact ⟨o, e⟩) ?_ hx J ?_ ?_ hm S2 j0 ⟨⟨_, Heap.get?_push_size _ rfl, rfl, rfl⟩, hL.push _⟩) ?_
    · intro b hb
      rcases List.mem_cons.mp hb with rfl | hb
      · exact .inl rfl
      · rw [List.mem_singleton.mp hb]; exact .inr ⟨_, hl⟩
    · intro i v m₁ M₁ I₁ _ hv hI' hj
      exact turn i v m₁ M₁ I₁ (by simpa using hv) hI' hj
    · intro m₁ M₁ I₁ hI' hj
      exact done m₁ M₁ I₁ hI' (by simpa using hj)
    · intro r s' k
      cases r with
      | ok f => exact AfterS.trans (s' := { s1 with heap := s1.heap.push { cls := .type "list_iterator", data := .fields #[.ref l, .int 0 0] } }) hI (hs.trans ⟨rfl, rfl, rfl⟩) k fun _ _ _ _ h => h
      | error e => exact k.elim
  · rintro v s' ⟨M', I', S', hI, hs, k⟩
    exact k.elim

theorem range_fits {k : Nat} (h : k ≤ 2 ^ 24) : Builtin.Range.small 0 (k : Int) 1 = true ∧ Builtin.Range.rangeSize 0 (k : Int) 1 = (k : Int) := by
  have e : Builtin.Range.rangeSize 0 (k : Int) 1 = (k : Int) := by
    unfold Builtin.Range.rangeSize
    rw [if_pos (by decide)]
    by_cases q : (0 : Int) < k
    · rw [if_pos q]; simp
    · rw [if_neg q]; omega
  refine ⟨?_, e⟩
  have fits : ∀ i : Int, 0 ≤ i → i ≤ 16777217 → Builtin.Range.rangeFitsLong i = true := fun i h1 h2 => by
    unfold Builtin.Range.rangeFitsLong
    exact Bool.and_eq_true_iff.mpr ⟨decide_eq_true (by omega), decide_eq_true (by omega)⟩
  have hk : (k : Int) ≤ 16777216 := by omega
  unfold Builtin.Range.small
  rw [e, fits 0 (by omega) (by omega), fits k (by omega) (by omega), fits 1 (by omega) (by omega), if_pos (by decide), fits _ (by omega) (by omega)]
  simp
/-- for x in range(k) -/
theorem X_for_range (ok : a.Ok n) (fm : Fm a scope) {x : Str} {xp : Pos} {iter : Expr} {body : List Stmt} {pos : Pos} (hx : a.env.kindOf x = some .local) (hfs : ∀ x, foldedSetIterable iter a.env x = pure x)
    (h : Ex a (eval iter a.env) m M I (kFr x body a m P) noX) : Xs a (exec (.For (.Name x xp) iter body [] pos) a.env) m M I P X := by
  intro mf G R s hm S
  refine wpAny_For (wpAny_mono (h mf (G ++ R) s hm.more S) ?_ ?_) hfs
  · rintro v s1 ⟨M1, I1, S1, hI, hs, r, k, t₁, t₂, t₃, rfl, hr, hk, J, j0, turn, done⟩
    have hR : IsRange s1.heap r 0 (k : Int) 1 t₁ t₂ t₃ := S1.memI hr
    obtain ⟨f1, f2⟩ := range_fits hk
    refine wpAny_pyIter_range hR f1 ?_
    rw [f2]
    have S2 := S1.push (o := { cls := .type "range_iterator", data := .fields #[rawInt 0, rawInt (k : Int), rawInt 1] }) rfl (s' := { s1 with heap := s1.heap.push { cls := .type "range_iterator", data := .fields #[rawInt 0, rawInt (k : Int), rawInt 1] } }) rfl
    refine codeAny_mono (for_loop (P := P) ok fm (Walks.range ok.hh s1.heap.objs.size 0 1 k) (fun i h st => ⟨_, st⟩) (fun b hb => .inl (List.mem_singleton.mp hb)) hx J ?_ done hm S2 j0 ?_) ?_
    · rintro i v m₁ M₁ I₁ hik ⟨t, rfl⟩ hI' hj
      have := turn i t m₁ M₁ I₁ hik hI' hj
      simpa using this
    · show Heap.get? _ _ = _
      simpa using Heap.get?_push_size _ rfl
    · intro r s' k
      cases r with
      | ok f => exact AfterS.trans (s' := { s1 with heap := s1.heap.push { cls := .type "range_iterator", data := .fields #[rawInt 0, rawInt (_ : Int), rawInt 1] } }) hI (hs.trans ⟨rfl, rfl, rfl⟩) k fun _ _ _ _ h => h
      | error e => exact k.elim
  · rintro v s' ⟨M', I', S', hI, hs, k⟩
    exact k.elim

/-! comprehensions -/
noncomputable def clOf (cells : List (Str × Addr)) : List (Str × NameKind) → List (Str × Addr) → List (Str × Addr)
  | [], acc => acc
  | (y, k) :: r, acc => if k == .free then clOf cells r ((y, (cells.lookup y).getD 0) :: acc) else clOf cells r acc
theorem closure_go {env : Env} : ∀ (l : List (Str × NameKind)) (acc : List (Str × Addr)), (∀ p ∈ l, p.2 = .free → (env.cells.lookup p.1).isSome = true) →
      (forIn (m := Sem) l acc fun (x : Str × NameKind) (r : List (Str × Addr)) => (match x with
        | (name, kind) => if (kind == NameKind.free) = true then do let c ← cellOf env name; pure (ForInStep.yield ((name, c) :: r)) else pure (ForInStep.yield r))) = pure (clOf env.cells l acc)
  | [], _, _ => rfl
  | (y, k) :: r, acc, hp => by
    rw [List.forIn_cons]
    have ih := fun acc => closure_go (env := env) r acc fun p h => hp p (.tail _ h)
    by_cases q : k = .free
    · subst q
      obtain ⟨c, hc⟩ := Option.isSome_iff_exists.mp (hp (y, .free) (.head _) rfl)
      have e : cellOf env y = pure c := by unfold cellOf; rw [hc]
      have e2 : clOf env.cells ((y, .free) :: r) acc = clOf env.cells r ((y, c) :: acc) := by
        conv => lhs; unfold clOf
        rw [hc]; rfl
      rw [e2, ← ih]
      simp only [e]
      rfl
    · have q' : (k == NameKind.free) = false := by simpa using q
      have e2 : clOf env.cells ((y, k) :: r) acc = clOf env.cells r acc := by
        conv => lhs; unfold clOf
        simp [q']
      rw [e2, ← ih]
      simp only [q', Bool.false_eq_true, if_false]
      rfl
theorem closure_is {env : Env} {sc : Scope} (h : ∀ p ∈ sc.names, p.2 = .free → (env.cells.lookup p.1).isSome = true) : closureFor sc env = pure (clOf env.cells sc.names []) := by
  unfold closureFor
  show (forIn (m := Sem) sc.names [] _ >>= fun s => pure s) = _
  rw [closure_go sc.names [] h]
  rfl
end
end
section
theorem clOf_at {cells : List (Str × Addr)} {y : Str} : ∀ (names : List (Str × NameKind)) (acc : List (Str × Addr)), (∀ c, acc.lookup y = some c → c = (cells.lookup y).getD 0) → (names.lookup y = some .free ∨ (acc.lookup y).isSome = true) →
    (clOf cells names acc).lookup y = some ((cells.lookup y).getD 0)
  | [], acc, h, e => by
    rcases e with e | e
    · cases e
    · obtain ⟨c, hc⟩ := Option.isSome_iff_exists.mp e
      show acc.lookup y = _
      rw [hc, h c hc]
  | (z, k) :: r, acc, h, e => by
    unfold clOf
    by_cases q : k = .free
    · subst q
      simp only [beq_self_eq_true, if_true]
      refine clOf_at r _ (fun c hc => ?_) ?_
      · rw [List.lookup_cons] at hc
        by_cases p : (y == z) = true
        · rw [p] at hc; cases hc; rw [eq_of_beq p]
        · rw [Bool.eq_false_iff.mpr p] at hc; exact h c hc
      · by_cases p : (y == z) = true
        · exact .inr (by rw [List.lookup_cons, p]; rfl)
        · have p' := Bool.eq_false_iff.mpr p
          rcases e with e | e
          · rw [List.lookup_cons, p'] at e; exact .inl e
          · exact .inr (by rw [List.lookup_cons, p']; exact e)
    · have q' : (k == NameKind.free) = false := by simpa using q
      simp only [q', Bool.false_eq_true, if_false]
      refine clOf_at r acc h ?_
      rcases e with e | e
      · rw [List.lookup_cons] at e
        by_cases p : (y == z) = true
        · rw [p] at e; cases e; exact absurd rfl q
        · rw [Bool.eq_false_iff.mpr p] at e; exact .inl e
      · exact .inr e

theorem lookup_mapk (g : Str → NameKind → NameKind) (y : Str) : ∀ l : List (Str × NameKind), (l.map fun p => (p.1, g p.1 p.2)).lookup y = (l.lookup y).map (g y)
  | [] => rfl
  | (z, k) :: r => by
    rw [List.map_cons, List.lookup_cons, List.lookup_cons]
    by_cases q : (y == z) = true
    · rw [q]; rw [eq_of_beq q]; rfl
    · rw [Bool.eq_false_iff.mpr q]; exact lookup_mapk g y r
theorem lookup_relabel {sc : Scope} {env : Env} (y : Str) : (relabel sc env).names.lookup y = (sc.names.lookup y).map fun k => if (k == NameKind.free && env.scope.kind == ScopeKind.function && env.kindOf y == some NameKind.cell) = true then .cell else k := by
  rw [← lookup_mapk (fun n k => if (k == NameKind.free && env.scope.kind == ScopeKind.function && env.kindOf n == some NameKind.cell) = true then .cell else k)]
  show (sc.names.map _).lookup y = _
  congr 1
  refine List.map_congr_left fun p _ => ?_
  obtain ⟨n, k⟩ := p
  dsimp only
  split <;> rfl

/-- the act of a comprehension's element -/
noncomputable def Act.comp (a : Act) (sc : Scope) (C : Addr) : Act := ⟨a.w, a.A, a.A₀, a.base, a.outer, a.h₀, a.L, compEnvC sc (clOf a.env.cells sc.names []) C a.env, a.fenv⟩
theorem Act.Ok.comp {a : Act} {n : Nat} (ok : a.Ok n) {sc : Scope} (hk : sc.kind = .function) (C : Addr) : (a.comp sc C).Ok n :=
  ⟨ok.X, ok.T, ok.XB, ok.TB, ok.B, ok.hA, ok.hf, ok.hk, ok.hh, ok.hd, ok.hu, hk, ok.eg, ok.eb⟩

section
variable {X : Post Value} {a : Act} {m : Map} {M I : Led} {Q : Post Value} {P : PostS} {n : Nat} {scope : Scope}

/-- the map without the iterator's own name -/
noncomputable def drop0 (m : Map) : Map := fun y => if y = (".0" : Str) then none else m y
structure CompSc (env : Env) (sc : Scope) (x : Str) : Prop where
  kind : sc.kind = .function
  loc : sc.names.lookup x = some .local
  one : (sc.names.all fun p => p.2 != .local || p.1 == x || p.1 == (".0" : Str)) = true
  nocell : (sc.names.all fun p => p.2 != .cell) = true
  free : (sc.names.all fun p => p.2 != .free || (env.cells.lookup p.1).isSome) = true

theorem mem_of_lookup' {α : Type} : ∀ {l : List (Str × α)} {n : Str} {c : α}, l.lookup n = some c → (n, c) ∈ l := mem_of_lookup

theorem Holds.comp {sc : Scope} {x : Str} (cs : CompSc a.env sc x) {mf : Map} {H H' : Led} {C : Addr} {oC : Obj} {mc : Map} {v : Value} (hm : Holds a mf H m) (hs : H ⊆ H') (hC : (C, oC) ∈ H') (hN : LCg.NsObj oC mc) (hv : mc x = some v) :
    Holds (a.comp sc C) mf H' (upd (drop0 m) x v) := by
  have one : ∀ y, (a.comp sc C).env.kindOf y = some .local → y = x ∨ y = (".0" : Str) := by
    intro y k
    have k : (relabel sc a.env).names.lookup y = some .local := k
    rw [lookup_relabel] at k
    cases e : sc.names.lookup y with
    | none => rw [e] at k; cases k
    | some q =>
      rw [e] at k
      have z := List.all_eq_true.mp cs.one _ (mem_of_lookup' e)
      simp only [Option.map_some, Option.some.injEq] at k
      by_cases f : (q == NameKind.free && a.env.scope.kind == ScopeKind.function && a.env.kindOf y == some NameKind.cell) = true
      · rw [if_pos f] at k; cases k
      · rw [if_neg f] at k; subst k; simpa using z
  refine ⟨fun y u e k => ?_, fun y k => ?_⟩
  · by_cases yx : y = x
    · subst yx
      have : u = v := by unfold upd at e; simpa using e.symm
      subst this
      exact .inr ⟨oC, mc, hC, hN, hv⟩
    · rcases one y k with q | q
      · exact absurd q yx
      · subst q
        unfold upd drop0 at e
        rw [if_neg yx, if_pos rfl] at e
        cases e
  · have k' : (relabel sc a.env).names.lookup y = some .cell := k
    rw [lookup_relabel] at k'
    cases e : sc.names.lookup y with
    | none => rw [e] at k'; cases k'
    | some q =>
      rw [e] at k'
      simp only [Option.map_some, Option.some.injEq] at k'
      by_cases f : (q == NameKind.free && a.env.scope.kind == ScopeKind.function && a.env.kindOf y == some NameKind.cell) = true
      · simp only [Bool.and_eq_true, beq_iff_eq] at f
        obtain ⟨c, o, v₀, h1, h2, h3, h4⟩ := hm.cell y f.2
        refine ⟨c, o, v₀, ?_, hs h2, h3, fun u eu => h4 u ?_⟩
        · show (clOf a.env.cells sc.names []).lookup y = some c
          rw [clOf_at sc.names [] (fun _ h => by cases h) (.inl (by rw [e, f.1.1])), h1]; rfl
        · have hyx : y ≠ x := fun h => by
            rw [h, cs.loc] at e
            cases e
            cases f.1.1
          unfold upd drop0 at eu
          rw [if_neg hyx] at eu
          split at eu
          · cases eu
          · exact eu
      · rw [if_neg f] at k'
        subst k'
        have z := List.all_eq_true.mp cs.nocell _ (mem_of_lookup' e)
        simp at z

theorem nodup3 {H M I : Led} {p q r : Addr × Obj} (d : ((H ++ (M ++ I)).map (·.1)).Nodup) (o : LCg.Off3 p.1 q.1 r.1 (H ++ (M ++ I))) (h1 : p.1 ≠ q.1) (h2 : p.1 ≠ r.1) (h3 : q.1 ≠ r.1) :
    (((p :: q :: r :: H) ++ (M ++ I)).map (·.1)).Nodup := by
  have o' := o.mem
  refine nodup_cons (nodup_cons (nodup_cons d fun z hz => (o' z hz).2.2) fun z hz => ?_) fun z hz => ?_
  · rcases List.mem_cons.mp hz with rfl | hz
    · exact Ne.symm h3
    · exact (o' z hz).2.1
  · rcases List.mem_cons.mp hz with rfl | hz
    · exact Ne.symm h1
    · rcases List.mem_cons.mp hz with rfl | hz
      · exact Ne.symm h2
      · exact (o' z hz).1

theorem off_of_nodup {H M I : Led} {p q r : Addr × Obj} (d : (((p :: q :: r :: H) ++ (M ++ I)).map (·.1)).Nodup) : LCg.Off3 p.1 q.1 r.1 (H ++ (M ++ I)) := by
  simp only [List.cons_append, List.map_cons, List.nodup_cons, List.mem_cons, not_or] at d
  refine LCg.Off3.of fun z hz => ⟨fun e => d.1.2.2 (List.mem_map.mpr ⟨z, hz, e⟩), fun e => d.2.1.2 (List.mem_map.mpr ⟨z, hz, e⟩), fun e => d.2.2.1 (List.mem_map.mpr ⟨z, hz, e⟩)⟩

theorem comp_rest (ok : a.Ok n) {elt : Expr} {x : Str} {sc : Scope} (cs : CompSc a.env sc x) {mf : Map} {H : Led} (hm : Holds a mf H m) {s : Shared} {S : Led → Prop} {Pv : Nat → Value → Prop} {Fin : List Value → Led → Prop} {k : Nat}
    (hS : ∀ M' I', I ⊆ I' → S (H ++ (M' ++ I'))) (J : Nat → List Value → Led → Led → Prop)
    (turn : ∀ C i v ys M₁ I₁, i < k → Pv i v → I ⊆ I₁ → J i ys M₁ I₁ → Ex (a.comp sc C) (eval elt (a.comp sc C).env) (upd (drop0 m) x v) M₁ I₁ (fun y M₂ I₂ => J (i + 1) (ys ++ [y]) M₂ I₂) noX)
    (fin : ∀ ys M' I', I ⊆ I' → J k ys M' I' → ((H ++ (M' ++ I')).map (·.1)).Nodup → Fin ys (H ++ (M' ++ I'))) :
    ∀ (j i : Nat) (ys : List Value) (M₁ I₁ : Led), i + j = k → I ⊆ I₁ → J i ys M₁ I₁ → ((H ++ (M₁ ++ I₁)).map (·.1)).Nodup →
      LCg.CompRest PG a.w a.A a.h₀ a.L mf a.env elt x sc (clOf a.env.cells sc.names []) s S Pv Fin j i ys (H ++ (M₁ ++ I₁))
  | 0, i, ys, M₁, I₁, e, hI, hj, d => LCg.CompRest.zero (fin ys M₁ I₁ hI (by rw [← e]; simpa using hj) d)
  | j + 1, i, ys, M₁, I₁, e, hI, hj, d => by
    refine LCg.CompRest.succ ?_
    intro v Ia oI C oC D m₂ h tk E' hP hC hx F N off ne
    have S0 : Sit (a.comp sc C) mf ((Ia, oI) :: (C, oC) :: (D, LCg.lst ys) :: H) M₁ I₁ { s with heap := h, toks := tk } := ⟨F, N, nodup3 d off ne.1 ne.2.1 ne.2.2⟩
    have hm' : Holds (a.comp sc C) mf ((Ia, oI) :: (C, oC) :: (D, LCg.lst ys) :: H) (upd (drop0 m) x v) :=
      hm.comp cs (fun _ h => .tail _ (.tail _ (.tail _ h))) (.tail _ (.head _)) hC hx
    refine wpAny_mono (turn C i v ys M₁ I₁ (by omega) hP hI hj mf _ _ hm' S0) ?_ ?_
    · rintro y s' ⟨M', I', S', hI', hs, hj'⟩
      refine ⟨s'.heap, s'.toks, H ++ (M' ++ I'), hs.eq, S'.F, S'.N, off_of_nodup S'.D, hS _ _ (hI.trans hI'), ?_⟩
      refine comp_rest ok cs hm hS J turn fin j (i + 1) (ys ++ [y]) M' I' (by omega) (hI.trans hI') hj' ?_
      have d' := S'.D
      simp only [List.cons_append, List.map_cons, List.nodup_cons] at d'
      exact d'.2.2.2
    · rintro e s' ⟨M', I', S', hI', hs, hj'⟩
      exact hj'.elim

theorem sub_names (l : List (Str × NameKind)) : (l.all fun p => p.2 != .cell) = true → ∀ y ∈ l, y.2 ≠ .cell := fun h y hy => by simpa using List.all_eq_true.mp h y hy
theorem CompSc.clos {env : Env} {sc : Scope} {x : Str} (cs : CompSc env sc x) : closureFor sc env = pure (clOf env.cells sc.names []) :=
  closure_is fun p hp e => by have := List.all_eq_true.mp cs.free p hp; rw [e] at this; simpa using this
/-- a local of the block is local wherever it is looked up -/
noncomputable def locAll (sc : Scope) : Bool := sc.names.all fun p => p.2 != .local || sc.names.lookup p.1 == some .local
theorem locAll_of {sc : Scope} (h : locAll sc = true) : ∀ y ∈ sc.names, y.2 = .local → sc.names.lookup y.1 = some .local := fun y hy e => by
  have := List.all_eq_true.mp h y hy
  rw [e] at this; simpa using this

noncomputable def CompDone (J : Nat → List Value → Led → Led → Prop) (I : Led) (k : Nat) (Q : List Value → Addr → Nat → Led → Led → Prop) : Prop := ∀ ys M₂ I₂, I ⊆ I₂ → J k ys M₂ I₂ → ∀ D c, Q ys D c M₂ I₂

theorem comp_end {mf : Map} {H : Led} {s s1 : Shared} {J : Nat → List Value → Led → Led → Prop} {k : Nat} {I₁ : Led} (hI : I ⊆ I₁) (hs : Same s s1) (done : ∀ ys M₂ I₂, I₁ ⊆ I₂ → J k ys M₂ I₂ → ∀ D c, Q (.ref D) ((D, Li ys c) :: M₂) I₂) (g : Heap) :
    ∀ ys M' I', I₁ ⊆ I' → J k ys M' I' → ((H ++ (M' ++ I')).map (·.1)).Nodup → LCg.FinE a.h₀ a.L mf { s1 with heap := g } (After a mf H I s Q) ys (H ++ (M' ++ I')) := by
  intro ys M' I' hI' hj d D h tk F N off
  refine ⟨(D, Li ys ys.length) :: M', I', ⟨F, news_perm (perm_M H M' I' _) N, nodup_perm (perm_M H M' I' _) (nodup_cons d fun q hq e => ?_)⟩, hI.trans hI', hs.trans ⟨rfl, rfl, rfl⟩, done ys M' I' hI' hj D _⟩
  have : ∀ l : Led, LCg.Off1 D l → ∀ q ∈ l, q.1 ≠ D := by
    intro l
    induction l with
    | nil => intro _ q h; cases h
    | cons p r ih =>
      intro o q h
      rcases List.mem_cons.mp h with rfl | h
      · exact o.1
      · exact ih o.2 q h
  exact this _ off q hq e

abbrev kJn (J : List Value → Led → Led → Prop) (ys : List Value) : Post Value := fun y M₂ I₂ => J (ys ++ [y]) M₂ I₂
inductive kCl (a : Act) (sc : Scope) (elt : Expr) (x : Str) (m : Map) (Q : Post Value) (v : Value) (M' I' : Led) : Prop
  | mk (l : Addr) (vs : List Value) (c : Nat) (e : v = .ref l) (hl : (l, Li vs c) ∈ I') (hz : vs.length ≤ sizeLine) (J : Nat → List Value → Led → Led → Prop) (j0 : J 0 [] M' I')
      (turn : ∀ C i v ys M₁ I₁, vs[i]? = some v → I' ⊆ I₁ → J i ys M₁ I₁ → Ex (a.comp sc C) (eval elt (a.comp sc C).env) (upd (drop0 m) x v) M₁ I₁ (kJn (J (i + 1)) ys) noX)
      (done : ∀ ys M₂ I₂, I' ⊆ I₂ → J vs.length ys M₂ I₂ → ∀ D c, Q (.ref D) ((D, Li ys c) :: M₂) I₂)
inductive kCr (a : Act) (sc : Scope) (elt : Expr) (x : Str) (m : Map) (Q : Post Value) (v : Value) (M' I' : Led) : Prop
  | mk (r : Addr) (k : Nat) (t₁ t₂ t₃ : Tok) (e : v = .ref r) (hr : (r, ({ cls := .type "range", data := .fields #[.int 0 t₁, .int (k : Nat) t₂, .int 1 t₃] } : Obj)) ∈ I') (hk : k ≤ 2 ^ 24) (J : Nat → List Value → Led → Led → Prop) (j0 : J 0 [] M' I')
      (turn : ∀ C i t ys M₁ I₁, i < k → I' ⊆ I₁ → J i ys M₁ I₁ → Ex (a.comp sc C) (eval elt (a.comp sc C).env) (upd (drop0 m) x (.int i t)) M₁ I₁ (kJn (J (i + 1)) ys) noX)
      (done : ∀ ys M₂ I₂, I' ⊆ I₂ → J k ys M₂ I₂ → ∀ D c, Q (.ref D) ((D, Li ys c) :: M₂) I₂)
inductive kDl (a : Act) (sc : Scope) (elt : Expr) (x : Str) (m : Map) (y : Str) (P : PostS) (v : Value) (M' I' : Led) : Prop
  | mk (l : Addr) (vs : List Value) (c : Nat) (e : v = .ref l) (hl : (l, Li vs c) ∈ I') (hz : vs.length ≤ sizeLine) (J : Nat → List Value → Led → Led → Prop) (j0 : J 0 [] M' I')
      (turn : ∀ C i v ys M₁ I₁, vs[i]? = some v → I' ⊆ I₁ → J i ys M₁ I₁ → Ex (a.comp sc C) (eval elt (a.comp sc C).env) (upd (drop0 m) x v) M₁ I₁ (kJn (J (i + 1)) ys) noX)
      (done : ∀ ys M₂ I₂, I' ⊆ I₂ → J vs.length ys M₂ I₂ → ∀ D c, P .next (upd m y (.ref D)) ((D, Li ys c) :: M₂) I₂)
inductive kDr (a : Act) (sc : Scope) (elt : Expr) (x : Str) (m : Map) (y : Str) (P : PostS) (v : Value) (M' I' : Led) : Prop
  | mk (r : Addr) (k : Nat) (t₁ t₂ t₃ : Tok) (e : v = .ref r) (hr : (r, ({ cls := .type "range", data := .fields #[.int 0 t₁, .int (k : Nat) t₂, .int 1 t₃] } : Obj)) ∈ I') (hk : k ≤ 2 ^ 24) (J : Nat → List Value → Led → Led → Prop) (j0 : J 0 [] M' I')
      (turn : ∀ C i t ys M₁ I₁, i < k → I' ⊆ I₁ → J i ys M₁ I₁ → Ex (a.comp sc C) (eval elt (a.comp sc C).env) (upd (drop0 m) x (.int i t)) M₁ I₁ (kJn (J (i + 1)) ys) noX)
      (done : ∀ ys M₂ I₂, I' ⊆ I₂ → J k ys M₂ I₂ → ∀ D c, P .next (upd m y (.ref D)) ((D, Li ys c) :: M₂) I₂)
theorem E_comp_list (ok : a.Ok n) {elt iter : Expr} {x : Str} {px : Pos} {sc : Scope} {pos : Pos} (cs : CompSc a.env sc x) (hl : locAll sc = true) (hfs : ∀ x, foldedSetIterable iter a.env x = pure x)
    (h : Ex a (eval iter a.env) m M I (kCl a sc elt x m Q) X) : Ex a (eval (.ListComp elt [⟨.Name x px, iter, [], 0⟩] sc pos) a.env) m M I Q X := by
  intro mf H s hm S
  refine LCg.ListComp_U S.F cs.clos (sub_names _ cs.nocell) cs.kind (locAll_of hl) cs.loc (wpAny_mono (h mf H s hm S) ?_ fun _ _ h => h) hfs
  rintro v s1 ⟨M1, I1, S1, hI, hs, l, vs, c, rfl, hl', hz, J, j0, turn, done⟩
  refine LCg.CompSrc.ledger ok.hh S1.F S1.N (S1.mem (.ofI hl')) (by simpa using hz) fun g => ?_
  have R := comp_rest (I := I1) ok cs hm (s := { s1 with heap := g }) (S := LCg.SrcAt a.h₀ l vs.toArray) (Pv := fun i v => vs.toArray[i]? = some v) (k := vs.toArray.size) (Fin := LCg.FinE a.h₀ a.L mf { s1 with heap := g } (After a mf H I s Q))
    (fun M' I' hI' => .inr ⟨_, List.mem_append_right _ (List.mem_append_right _ (hI' hl')), rfl, _, rfl⟩) J
    (fun C i v ys M₁ I₁ hi hv hI' hj => turn C i v ys M₁ I₁ (by simpa using hv) hI' hj) (comp_end (Q := Q) hI hs (fun ys M₂ I₂ hI2 hj => done ys M₂ I₂ hI2 (by simpa using hj)) g) vs.toArray.size 0 [] M1 I1 (by omega) (fun _ h => h) j0 S1.D
  exact R
theorem E_comp_range (ok : a.Ok n) {elt iter : Expr} {x : Str} {px : Pos} {sc : Scope} {pos : Pos} (cs : CompSc a.env sc x) (hl : locAll sc = true) (hfs : ∀ x, foldedSetIterable iter a.env x = pure x)
    (h : Ex a (eval iter a.env) m M I (kCr a sc elt x m Q) X) : Ex a (eval (.ListComp elt [⟨.Name x px, iter, [], 0⟩] sc pos) a.env) m M I Q X := by
  intro mf H s hm S
  refine LCg.ListComp_U S.F cs.clos (sub_names _ cs.nocell) cs.kind (locAll_of hl) cs.loc (wpAny_mono (h mf H s hm S) ?_ fun _ _ h => h) hfs
  rintro v s1 ⟨M1, I1, S1, hI, hs, r, k, t₁, t₂, t₃, rfl, hr, hk, J, j0, turn, done⟩
  obtain ⟨f1, f2⟩ := range_fits hk
  have hR : IsRange s1.heap r 0 (k : Int) 1 t₁ t₂ t₃ := S1.memI hr
  refine LCg.CompSrc.range ok.hh S1.F S1.N hR f1 f2 hk fun g => ?_
  have R := comp_rest (I := I1) ok cs hm (s := { s1 with heap := g }) (S := fun _ => True) (Pv := fun i v => ∃ t, v = .int (0 + (i : Int)) t) (k := k) (Fin := LCg.FinE a.h₀ a.L mf { s1 with heap := g } (After a mf H I s Q))
    (fun M' I' hI' => trivial) J
    (fun C i v ys M₁ I₁ hi hv hI' hj => by
      obtain ⟨t, rfl⟩ := hv
      have := turn C i t ys M₁ I₁ hi hI' hj
      simpa using this) (comp_end (Q := Q) hI hs done g) k 0 [] M1 I1 (by omega) (fun _ h => h) j0 S1.D
  exact R

theorem off1_mem {D : Addr} (l : Led) : LCg.Off1 D l → ∀ q ∈ l, q.1 ≠ D := by
  induction l with
  | nil => intro _ q h; cases h
  | cons p r ih =>
    intro o q h
    rcases List.mem_cons.mp h with rfl | h
    · exact o.1
    · exact ih o.2 q h
theorem comp_endS (fm : Fm a scope) {mf : Map} {G R : Led} {s s1 : Shared} {y : Str} (hy : a.env.kindOf y = some .local) (hm : Holds a mf G m) (S0 : Sit a mf (G ++ R) M I s) {J : Nat → List Value → Led → Led → Prop} {k : Nat} {I₁ : Led} (hI : I ⊆ I₁) (hs : Same s s1)
    (done : ∀ ys M₂ I₂, I₁ ⊆ I₂ → J k ys M₂ I₂ → ∀ D c, P .next (upd m y (.ref D)) ((D, Li ys c) :: M₂) I₂) (g : Heap) :
    ∀ ys M' I', I₁ ⊆ I' → J k ys M' I' → (((G ++ R) ++ (M' ++ I')).map (·.1)).Nodup → LCg.FinA a.h₀ a.L mf { s1 with heap := g } y (AfterS a R I s P) ys ((G ++ R) ++ (M' ++ I')) := by
  intro ys M' I' hI' hj d D h tk F N off
  exact ⟨_, G, _, (D, Li ys ys.length) :: M', I', hm.set fm S0 hy, ⟨F, news_perm (perm_M (G ++ R) M' I' _) N, nodup_perm (perm_M (G ++ R) M' I' _) (nodup_cons d fun q hq e => off1_mem _ off q hq e)⟩, hI.trans hI', hs.trans ⟨rfl, rfl, rfl⟩, done ys M' I' hI' hj D _⟩

theorem X_comp_list (ok : a.Ok n) (fm : Fm a scope) {elt iter : Expr} {x y : Str} {px py : Pos} {sc : Scope} {pos spos : Pos} (cs : CompSc a.env sc x) (hl : locAll sc = true) (hfs : ∀ x, foldedSetIterable iter a.env x = pure x) (hy : a.env.kindOf y = some .local)
    (hsw : swapsWith (.ListComp elt [⟨.Name x px, iter, [], 0⟩] sc pos) (some (.Name y py)) spos.line a.env = pure true)
    (h : Ex a (eval iter a.env) m M I (kDl a sc elt x m y P) noX) : Xs a (exec (.Assign [.Name y py] (.ListComp elt [⟨.Name x px, iter, [], 0⟩] sc pos) spos) a.env) m M I P X := by
  intro mf G R s hm S
  refine LCg.Assign_ListComp_U S.F fm.loc hsw cs.clos (sub_names _ cs.nocell) cs.kind (locAll_of hl) cs.loc hy (by rw [ok.ek]; rfl) (wpAny_mono (h mf (G ++ R) s hm.more S) ?_ (fun _ _ h => by obtain ⟨_, _, _, _, _, k⟩ := h; exact k.elim)) hfs
  rintro v s1 ⟨M1, I1, S1, hI, hs, l, vs, c, rfl, hl', hz, J, j0, turn, done⟩
  refine LCg.CompSrc.ledger ok.hh S1.F S1.N (S1.mem (.ofI hl')) (by simpa using hz) fun g => ?_
  have R := comp_rest (I := I1) ok cs hm.more (s := { s1 with heap := g }) (S := LCg.SrcAt a.h₀ l vs.toArray) (Pv := fun i v => vs.toArray[i]? = some v) (k := vs.toArray.size) (Fin := LCg.FinA a.h₀ a.L mf { s1 with heap := g } y (AfterS a R I s P))
    (fun M' I' hI' => .inr ⟨_, List.mem_append_right _ (List.mem_append_right _ (hI' hl')), rfl, _, rfl⟩) J
    (fun C i v ys M₁ I₁ hi hv hI' hj => turn C i v ys M₁ I₁ (by simpa using hv) hI' hj) (comp_endS (P := P) fm hy hm S hI hs (fun ys M₂ I₂ hI2 hj => done ys M₂ I₂ hI2 (by simpa using hj)) g) vs.toArray.size 0 [] M1 I1 (by omega) (fun _ h => h) j0 S1.D
  exact R
theorem X_comp_range (ok : a.Ok n) (fm : Fm a scope) {elt iter : Expr} {x y : Str} {px py : Pos} {sc : Scope} {pos spos : Pos} (cs : CompSc a.env sc x) (hl : locAll sc = true) (hfs : ∀ x, foldedSetIterable iter a.env x = pure x) (hy : a.env.kindOf y = some .local)
    (hsw : swapsWith (.ListComp elt [⟨.Name x px, iter, [], 0⟩] sc pos) (some (.Name y py)) spos.line a.env = pure true)
    (h : Ex a (eval iter a.env) m M I (kDr a sc elt x m y P) noX) : Xs a (exec (.Assign [.Name y py] (.ListComp elt [⟨.Name x px, iter, [], 0⟩] sc pos) spos) a.env) m M I P X := by
  intro mf G R s hm S
  refine LCg.Assign_ListComp_U S.F fm.loc hsw cs.clos (sub_names _ cs.nocell) cs.kind (locAll_of hl) cs.loc hy (by rw [ok.ek]; rfl) (wpAny_mono (h mf (G ++ R) s hm.more S) ?_ (fun _ _ h => by obtain ⟨_, _, _, _, _, k⟩ := h; exact k.elim)) hfs
  rintro v s1 ⟨M1, I1, S1, hI, hs, r, k, t₁, t₂, t₃, rfl, hr, hk, J, j0, turn, done⟩
  obtain ⟨f1, f2⟩ := range_fits hk
  have hR : IsRange s1.heap r 0 (k : Int) 1 t₁ t₂ t₃ := S1.memI hr
  refine LCg.CompSrc.range ok.hh S1.F S1.N hR f1 f2 hk fun g => ?_
  have R := comp_rest (I := I1) ok cs hm.more (s := { s1 with heap := g }) (S := fun _ => True) (Pv := fun i v => ∃ t, v = .int (0 + (i : Int)) t) (k := k) (Fin := LCg.FinA a.h₀ a.L mf { s1 with heap := g } y (AfterS a R I s P))
    (fun M' I' hI' => trivial) J
    (fun C i v ys M₁ I₁ hi hv hI' hj => by
      obtain ⟨t, rfl⟩ := hv
      have := turn C i t ys M₁ I₁ hi hI' hj
      simpa using this) (comp_endS (P := P) fm hy hm S hI hs done g) k 0 [] M1 I1 (by omega) (fun _ h => h) j0 S1.D
  exact R
end
end
section
theorem Act.Ok.le {a : Act} {n k : Nat} (ok : a.Ok n) (h : k ≤ n) : a.Ok k :=
  ⟨ok.X, ok.T, ok.XB, ok.TB, ok.B, ok.hA, ok.hf, ok.hk, ok.hh, by have := ok.hd; omega, by have := ok.hu; omega, ok.ek, ok.eg, ok.eb⟩

section
variable {X : Post Value} {a : Act} {m : Map} {M I : Led} {Q : Post Value} {P : PostS} {n : Nat} {scope : Scope}

/-! a dict's display -/
noncomputable def Ep (a : Act) (keys : List (Option Expr)) (vals : List Expr) (pos : Pos) (m : Map) (M I : Led) (Q : Post (List (Value × Value))) (X : Post Value) : Prop := Ex a (evalPairs (pairTrees keys vals a.env pos)) m M I Q X
theorem Ep.nil {pos} {Q : Post (List (Value × Value))} (h : Q [] M I) : Ep a [] [] pos m M I Q X := fun _ _ _ _ S => pairTrees_nil_walk (S.here h)
abbrev kE2 (ks : List (Option Expr)) (vs : List Expr) (pos : Pos) (X : Post Value) (a : Act) (m : Map) (I : Led) (kv : Value) (Q : Post (List (Value × Value))) : Post Value := fun vv M'' I'' => I ⊆ I'' → Ep a ks vs pos m M'' I'' (kC (kv, vv) Q) X
abbrev kE1 (v : Expr) (ks : List (Option Expr)) (vs : List Expr) (pos : Pos) (X : Post Value) (a : Act) (m : Map) (I : Led) (Q : Post (List (Value × Value))) : Post Value := fun kv M' I' => I ⊆ I' → Ex a (eval v a.env) m M' I' (kE2 ks vs pos X a m I kv Q) X
theorem Ep.cons {k v ks vs pos} {Q : Post (List (Value × Value))} (h : Ex a (eval k a.env) m M I (kE1 v ks vs pos X a m I Q) X) : Ep a (some k :: ks) (v :: vs) pos m M I Q X := by
  intro mf H s hm S
  refine pairTrees_cons_walk (wpAny_mono (h mf H s hm S) ?_ fun _ _ h => h)
  rintro v s' ⟨M', I', S', hI, hs, k⟩
  refine wpAny_mono (k hI mf H s' hm S') ?_ fun v s'' h => h.trans hI hs fun _ _ _ h => h
  rintro u s'' ⟨M'', I'', S'', hI', hs', k'⟩
  exact wpAny_mono (k' (hI.trans hI') mf H s'' hm S'') (fun _ s3 ⟨M3, I3, S3, g3, e3, q3⟩ => ⟨M3, I3, S3, (hI.trans hI').trans g3, (hs.trans hs').trans e3, q3⟩) fun v s3 h => h.trans (hI.trans hI') (hs.trans hs') fun _ _ _ h => h

theorem UpdM.updF {d : Addr} {o : Obj} {l : Led} {g : Obj → Led} (u : ∀ o', UpdM d o o' l (g o')) (n : (l.map (·.1)).Nodup) : UpdF d o l g := by
  obtain ⟨pre, post, e1, e2, e3, e4⟩ := ((u o).upd n).split
  have e5 : ∀ o', g o' = pre ++ (d, o') :: post := by
    intro o'
    obtain ⟨pre', post', f1, f2, f3, f4⟩ := ((u o').upd n).split
    rw [f2]
    have : pre ++ (d, o) :: post = pre' ++ (d, o) :: post' := e1.symm.trans f1
    clear e1 e2 f1 f2
    induction pre generalizing pre' with
    | nil =>
      cases pre' with
      | nil => simp at this; rw [this]
      | cons p r =>
        simp only [List.nil_append, List.cons_append, List.cons.injEq] at this
        exact absurd (by rw [← this.1]) (f3 p (.head _))
    | cons p r ih =>
      cases pre' with
      | nil =>
        simp only [List.nil_append, List.cons_append, List.cons.injEq] at this
        exact absurd (by rw [this.1]) (e3 p (.head _))
      | cons p' r' =>
        simp only [List.cons_append, List.cons.injEq] at this
        rw [this.1, List.cons_append, List.cons_append, ih (fun q hq => e3 q (.tail _ hq)) r' (fun q hq => f3 q (.tail _ hq)) this.2]
  have go : ∀ (pre : Led), (∀ p ∈ pre, p.1 ≠ d) → UpdF d o (pre ++ (d, o) :: post) (fun o' => pre ++ (d, o') :: post) := by
    intro pre
    induction pre with
    | nil => intro _; exact UpdF.head e4
    | cons p r ih => intro h; exact UpdF.tail (h p (.head _)) (ih fun q hq => h q (.tail _ hq))
  have := go pre e3
  rw [← e1] at this
  rwa [show g = fun o' => pre ++ (d, o') :: post from funext e5]

inductive kDi (a : Act) (Q : Post Value) (vs : List (Value × Value)) (M' I' : Led) : Prop
  | mk (h1 : allStrKeys vs = true) (h2 : ((strPairs vs).map (·.1)).Nodup) (k : ∀ d o, o.IsDictOf (SK a.w) (strPairs vs) → (d == sysModules) = false → Q (.ref d) ((d, o) :: M') I')
theorem E_dict (ok : a.Ok n) {keys vals pos} (hst : strLits keys = true) (hall : keys.all (·.isSome) = true) (hl : keys.length = vals.length) (h0 : keys ≠ []) (hlen : keys.length ≤ 15)
    (h : Ep a keys vals pos m M I (kDi a Q) X) : Ex a (eval (.Dict keys vals pos) a.env) m M I Q X := by
  intro mf H s hm S
  obtain ⟨p, l, me, mg, mb, T⟩ := ok.T
  refine kdn_str hst S.F S.N T.nolimit hall hl h0 hlen fun d h' o F' N' fr lo hd' => ?_
  have S1 : Sit a mf ((d, o) :: H) M I { s with heap := h' } := ⟨F', N', nodup_cons S.D fun q hq => Nat.ne_of_lt (fr q hq)⟩
  refine wpAny_mono (h mf ((d, o) :: H) _ (hm.sub (List.subset_cons_self _ _)) S1) ?_ ?_
  · rintro vs s2 ⟨M2, I2, S2, hI, hs, hk, hn, k⟩
    refine kdn_made_str S2.F S2.N (UpdF.head (r := H ++ (M2 ++ I2)) fun q hq => ?_) hd' hk hn fun h3 o3 F3 N3 hd3 => ?_
    · have D := S2.D
      rw [List.cons_append, List.map_cons, List.nodup_cons] at D
      exact fun e => D.1 (List.mem_map.mpr ⟨q, hq, e⟩)
    · have S3 : Sit a mf H ((d, o3) :: M2) I2 { s2 with heap := h3, toks := s2.toks + vs.length } := by
        refine ⟨F3, news_perm (perm_M H M2 I2 _) N3, ?_⟩
        have D := S2.D
        rw [((perm_M H M2 I2 (d, o3)).map (·.1)).nodup_iff]
        exact D
      exact ⟨_, I2, S3, hI, Same.trans (Same.trans (s' := { s with heap := h' }) ⟨rfl, rfl, rfl⟩ hs) ⟨rfl, rfl, rfl⟩, k d o3 hd3 lo⟩
  · rintro e s2 ⟨M2, I2, S2, hI, hs, k⟩
    refine ⟨M2, I2, ⟨S2.F, fun q hq => S2.N q (.tail _ hq), ?_⟩, hI, Same.trans (s' := { s with heap := h' }) ⟨rfl, rfl, rfl⟩ hs, k⟩
    have D := S2.D
    rw [List.cons_append, List.map_cons, List.nodup_cons] at D
    exact D.2

theorem dict_set {U₀ : Post Unit} {d o kvs x t v} {M' : Obj → Led} (ho : o.IsDictOf (SK a.w) kvs) (U : ∀ o', UpdM d o o' M (M' o')) (hz : kvs.length ≤ sizeLine) (h : ∀ o', o'.IsDictOf (SK a.w) (stored kvs x v) → U₀ () (M' o') I) : Ex a (setItem (.ref d) (.str x t) v) m M I U₀ X := by
  intro mf H s hm S
  refine kda_set S.F S.N (UpdM.updF (g := fun o' => H ++ (M' o' ++ I)) (fun o' => ((U o').app I).pre H) S.D) ho (strKind_is PG a.w x t) hz fun h' o' F' N' hd' => ?_
  exact ⟨_, I, S.set (U o') F' N', fun _ h => h, ⟨rfl, rfl, rfl⟩, h o' hd'⟩

theorem setL_is {vs : List Value} {k : Nat} {v : Value} (h : k < vs.length) : ki_setL vs k v = some (vs.set k v) := by
  induction vs generalizing k with
  | nil => cases h
  | cons x r ih =>
    cases k with
    | zero => rfl
    | succ k =>
      show (match ki_setL r k v with | some q => some (x :: q) | none => none) = some (x :: r.set k v)
      rw [ih (Nat.lt_of_succ_lt_succ h)]
theorem list_set {U₀ : Post Unit} {l vs c k t v} {M' : Led} (h0 : 0 ≤ k) (hb : k < 2 ^ 63) (hk : k.toNat < vs.length) (U : UpdM l (Li vs c) (Li (vs.set k.toNat v) c) M M') (h : U₀ () M' I) : Ex a (setItem (.ref l) (.int k t) v) m M I U₀ X := by
  intro mf H s hm S
  exact ki_set (its := vs.toArray) S.F S.N h0 hb (setL_is (by simpa using hk)) (S.upd U) fun h' F' N' => ⟨M', I, S.set U F' N', fun _ h => h, ⟨rfl, rfl, rfl⟩, h⟩

/-! slices -/
noncomputable def optE (a : Act) (e : Option Expr) (m : Map) (M I : Led) (Q : Post Value) (X : Post Value) : Prop := Ex a (evalPart e a.env) m M I Q X
theorem optE.none (h : Q .none M I) : optE a .none m M I Q X := fun _ _ _ _ S => wpAny_pure (S.here h)
theorem optE.some {e} (h : Ex a (eval e a.env) m M I Q X) : optE a (.some e) m M I Q X := h

inductive kL2 (l : Addr) (vs : List Value) (c : Nat) (vl : Value) (Q : Post Value) (vu : Value) (M3 I3 : Led) : Prop
  | mk (h : At M3 I3 l (Li vs c)) (il iu : Option Int) (p1 : IsPart vl il) (p2 : IsPart vu iu) (k : ∀ D, Q (.ref D) ((D, Li (slicePick vs.toArray il iu none).toList 0) :: M3) I3)
abbrev kL1 (a : Act) (hi : Option Expr) (m : Map) (l : Addr) (vs : List Value) (c : Nat) (Q : Post Value) (X : Post Value) : Post Value := fun vl M2 I2 => optE a hi m M2 I2 (kL2 l vs c vl Q) X
inductive kSx (a : Act) (lo hi : Option Expr) (m : Map) (Q : Post Value) (X : Post Value) (v : Value) (M' I' : Led) : Prop
  | mk (l : Addr) (vs : List Value) (c : Nat) (e : v = .ref l) (hl : At M' I' l (Li vs c)) (hz : vs.length ≤ sizeLine) (k : optE a lo m M' I' (kL1 a hi m l vs c Q X) X)
abbrev kSl (a : Act) (lo hi : Option Expr) (m : Map) (I : Led) (Q : Post Value) (X : Post Value) : Post Value := fun v M' I' => I ⊆ I' → kSx a lo hi m Q X v M' I'
theorem E_slice {e lo hi : _} {sp pos : Pos} (h : Ex a (eval e a.env) m M I (kSl a lo hi m I Q X) X)
    (hs : ∀ l b, subscripted (.Slice lo hi none sp) false (.ref l) (.ref b) = operate [.ref b, .ref l] (getItem (.ref l) (.ref b)) := by intro _ _; rfl) : Ex a (eval (.Subscript e (.Slice lo hi none sp) pos) a.env) m M I Q X := by
  intro mf H s hm S
  refine Subscript_ (wpAny_mono (h mf H s hm S) ?_ fun _ _ h => h)
  rintro v s1 ⟨M1, I1, S1, hI, hs1, k⟩
  obtain ⟨l, vs, c, rfl, hl, hz, kk⟩ := k hI
  refine wpAny_Slice (wpAny_mono (kk mf H s1 hm S1) ?_ fun v s'' h => h.trans hI hs1 fun _ _ _ h => h)
  rintro vl s2 ⟨M2, I2, S2, hI2, hs2, k2⟩
  have hI2 := hI.trans hI2
  have hs2 := hs1.trans hs2
  refine wpAny_mono (k2 mf H s2 hm S2) ?_ fun v s'' h => h.trans hI2 hs2 fun _ _ _ h => h
  rintro vu s3 ⟨M3, I3, S3, hI3, hs3, hl3, il, iu, p1, p2, k3⟩
  have hI3 := hI2.trans hI3
  have hs3 := hs2.trans hs3
  refine wpAny_pure ?_
  have hl4 := hl3.isList S3
  refine tail_any (Heap.IsList.typeIs (s := { s3 with heap := s3.heap.push { cls := .type "slice", data := .fields #[vl, vu, .none] } }) (hl4.push _)) list_getitem_lookup
    (wpAny_getItem_list_slice (hl4.push _) (Heap.IsSliceOf.new ..) p1 p2 .none (by simp) ?_ (by simpa using hz)) (hs _ _)
  have N1 := News.push (S3.F.push { cls := .type "slice", data := .fields #[vl, vu, .none] }) (S3.N.grown fun _ _ e => Heap.get?_push_of_some _ e) { cls := .type "list", data := .seq (slicePick vs.toArray il iu none) }
  rw [Heap.size_push] at N1
  have F1 : Fr a.h₀ a.L ((s3.heap.push { cls := .type "slice", data := .fields #[vl, vu, .none] }).push { cls := .type "list", data := .seq (slicePick vs.toArray il iu none) }) mf := (S3.F.push _).push _
  show After a mf H I s Q (.ref (s3.heap.push _).objs.size) _
  rw [Heap.size_push]
  refine ⟨_, I3, S3.addM (s' := { s3 with heap := (s3.heap.push { cls := .type "slice", data := .fields #[vl, vu, .none] }).push { cls := .type "list", data := .seq (slicePick vs.toArray il iu none) } }) F1 (by simpa using N1) (fun q hq => Nat.lt_succ_of_lt (S3.fresh q hq)), hI3, hs3.trans ⟨rfl, rfl, rfl⟩, k3 _⟩

/-! unpacking two -/
inductive kUn (x y : Str) (m : Map) (P : PostS) (v : Value) (M' I' : Led) : Prop
  | mk (l : Addr) (u₁ u₂ : Value) (c : Nat) (e : v = .ref l) (hl : At M' I' l (Li [u₁, u₂] c)) (k : P .next (upd (upd m x u₁) y u₂) M' I')
theorem X_unpack2 (ok : a.Ok n) (fm : Fm a scope) {x y : Str} {xp yp tp : Pos} {k : Nat} {value : Expr} {pos : Pos} (hx : a.env.kindOf x = some .local) (hy : a.env.kindOf y = some .local)
    (h1 : swapsWithSole [.Tuple [.Name x xp, .Name y yp] k tp] value pos.line a.env = pure false) (h2 : swappedStores [.Tuple [.Name x xp, .Name y yp] k tp] value a.env = pure none)
    (h : Ex a (eval value a.env) m M I (kUn x y m P) X) : Xs a (exec (.Assign [.Tuple [.Name x xp, .Name y yp] k tp] value pos) a.env) m M I P X := by
  intro mf G R s hm S
  refine Assign_Tuple (wpAny_mono (h mf (G ++ R) s hm.more S) ?_ ?_) h1 h2
  · rintro v s' ⟨M', I', S', hI, hs, l, u₁, u₂, c, rfl, hl, k⟩
    refine kun_list (items := [u₁, u₂].toArray) S'.F S'.N (hl.isList S') ok.hh rfl rfl fun h' F' N' => ?_
    have S2 : Sit a mf (G ++ R) M' I' { s' with heap := h' } := ⟨F', N', S'.D⟩
    show wpAny _ _ (assignInOrder [assign (.Name x xp) a.env, assign (.Name y yp) a.env] [u₁, u₂]) _ _ _
    show wpAny _ _ (do holding [u₂] (assign (.Name x xp) a.env u₁); assignInOrder [assign (.Name y yp) a.env] [u₂]) _ _ _
    refine wpAny_bind (wpAny_holding (wpAny_assign_Name (store_local ok fm hm S2 hx fun mf3 G3 s3 hm3 S3 hs3 => ?_)))
    show wpAny _ _ (do holding [] (assign (.Name y yp) a.env u₂); assignInOrder [] []) _ _ _
    refine wpAny_bind (wpAny_holding (wpAny_assign_Name (store_local ok fm hm3 S3 hy fun mf4 G4 s4 hm4 S4 hs4 => ?_)))
    exact wpAny_pure ⟨mf4, G4, _, M', I', hm4, S4, hI, (hs.trans ⟨rfl, rfl, rfl⟩).trans (hs3.trans hs4), k⟩
  · rintro v s' ⟨M', I', S', hI, hs, k⟩
    exact ⟨mf, G, M', I', S', hI, hs, k⟩

/-! lists -/
theorem rep_one {x : Value} (k : Nat) : List.foldl (fun x1 x2 => x1 ++ x2) (#[] : Array Value) (List.replicate k #[x]) = (List.replicate k x).toArray := by
  have go : ∀ (k : Nat) (acc : List Value), List.foldl (fun x1 x2 => x1 ++ x2) (acc.toArray) (List.replicate k #[x]) = (acc ++ List.replicate k x).toArray := by
    intro k
    induction k with
    | zero => intro acc; simp
    | succ k ih =>
      intro acc
      rw [List.replicate_succ, List.foldl_cons]
      have : acc.toArray ++ #[x] = (acc ++ [x]).toArray := by simp
      rw [this, ih, List.replicate_succ]
      simp
  simpa using go k []
theorem mul_li {l x c k t} (hl : At M I l (Li [x] c)) (hk : k ≤ 2 ^ 20) (h : ∀ D, Q (.ref D) ((D, Li (List.replicate k x) 0) :: M) I) : Ex a (binaryOp .Mult (.ref l) (.int (k : Nat) t)) m M I Q X := by
  intro mf H s hm S
  refine mul_list (items := #[x]) S.F S.N (S.at hl) (by omega) (by omega) (by simp; omega) fun h' F' N' => ?_
  have e : List.foldl (fun x1 x2 => x1 ++ x2) (#[] : Array Value) (List.replicate (if (#[x] : Array Value).isEmpty = true then 0 else ((k : Nat) : Int).toNat) #[x]) = (List.replicate k x).toArray := by
    rw [if_neg (by simp)]
    simpa using rep_one k
  rw [e] at N'
  exact ⟨_, I, S.addM F' N' S.fresh, fun _ h => h, ⟨rfl, rfl, rfl⟩, h _⟩
theorem add_li {l b vs us c c'} (hl : At M I l (Li vs c)) (hb : At M I b (Li us c')) (hz : vs.length + us.length ≤ sizeLine) (h : ∀ D, Q (.ref D) ((D, Li (vs ++ us) 0) :: M) I) : Ex a (binaryOp .Add (.ref l) (.ref b)) m M I Q X := by
  intro mf H s hm S
  refine add_arrays S.F S.N (hl.isList S) (hb.isList S) (fun h' F' N' => ?_) (by simpa using hz)
  exact ⟨_, I, S.addM F' N' S.fresh, fun _ h => h, ⟨rfl, rfl, rfl⟩, h _⟩

theorem tup_item {l k t vs c x} {e i : Expr} (hl : At M I l (Tu vs c)) (h0 : 0 ≤ k) (hb : k < 2 ^ 63) (hx : vs[k.toNat]? = some x) (h : Q x M I)
    (hs : ∀ l, subscripted i false (.ref l) (.int k t) = operate [.ref l, .int k t] (getItem (.ref l) (.int k t)) := by intro _; rfl) : Ex a (subscriptTail e i (.ref l) (.int k t)) m M I Q X := by
  intro mf H s hm S
  have hlt : k.toNat < vs.length := (List.getElem?_eq_some_iff.mp hx).1
  refine item_tupleT (hl.isTup S) (by omega) hb ?_ hx (S.here h) (hs l)
  unfold seqIndex?
  simp only [show ¬ (k < 0) by omega, if_false]
  rw [if_pos (by rw [decide_eq_true h0, decide_eq_true (show k < (vs.length : Int) by omega)]; rfl)]

theorem in_strs {l c x t vs ys} (hl : At M I l (Tu vs c)) (hi : StrsAre vs ys) (h : Q (.bool (ys.any (· == x))) M I) : Ex a (compareOp .In (.str x t) (.ref l)) m M I Q X :=
  fun mf H s hm S => in_tuple_strs (hl.isTup S) (by simpa using hi) (S.here h)

theorem isinst (ok : a.Ok n) {x dx C o} (hx : At M I x (instObj C dx)) (hdx : At M I dx o) (hi : isIn (hd.heap_39 a.w.params) (.ref C) C = true) (h : Q (.bool true) M I) : Ex a (call (.builtin "isinstance") [.ref x, .ref C]) m M I Q X :=
  fun mf H s hm S => isi_call (S.keepK ok) (fun M => (InstAt.of_news S.N (S.mem hx) (S.mem hdx)).type) hi (by intro h; cases h) (S.here h)
end
end
section
/-- the first place of a text among written ones -/
noncomputable def placeOf (x : Str) : List Str → Nat
  | [] => 0
  | y :: r => if y = x then 0 else placeOf x r + 1

theorem index_loop' {prog : Program} {w : World} {A : Around} {E : Value → Shared → Prop} {items : Array Value} {x : Str} {u : Tok} {P : Option PySem.Fin × Unit → Shared → Prop} :
    ∀ (n i : Nat) (s : Shared) (ys : List Str), i + n = items.size → StrsAre (items.toList.drop i) ys → x ∈ ys →
      P (some (.done (.ret (.int ((i + placeOf x ys : Nat) : Int) s.toks))), ()) { s with toks := s.toks + 1 } →
      wpAny (model prog w) A (forIn (m := Sem) (List.range' i n 1) ((none : Option PySem.Fin), ()) fun (i : Nat) __s =>
        match items[i]? with
        | some y => do
          let b ← eqBool y (.str x u)
          if b = true then do
              let r ← retInt (i : Int)
              pure (ForInStep.done (some r, ()))
            else pure (ForInStep.yield (none, ()))
        | _ => pure (ForInStep.yield (none, ()))) P E s
  | 0, i, s, ys, hn, hi, hx, h => by
    have : items.toList.drop i = [] := List.drop_of_length_le (by simp; omega)
    rw [this] at hi
    cases hi
    cases hx
  | n + 1, i, s, ys, hn, hi, hx, h => by
    have hlt : i < items.size := by omega
    have hd : items.toList.drop i = items[i] :: items.toList.drop (i + 1) := by simp [List.drop_eq_getElem_cons, hlt]
    rw [hd] at hi
    rw [List.range'_succ, List.forIn_cons]
    generalize hv : items[i] = v at hi
    have hg : items[i]? = some v := by simp [hlt, hv]
    cases hi with
    | @cons y t vs ys hi =>
      rw [hg]
      refine wpAny_bind (wpAny_bind (eqBool_str ?_))
      unfold placeOf at h
      by_cases e : y = x
      · rw [if_pos e] at h
        have e' : (y == x) = true := by simp [e]
        rw [e']
        refine wpAny_bind ?_
        show wpAny _ _ (do ret (← mkInt i)) _ _ s
        refine wpAny_bind (wpAny_mkInt (wpAny_pure (wpAny_pure (wpAny_pure h))))
      · rw [if_neg e] at h
        have e' : (y == x) = false := by simpa using e
        rw [e']
        refine wpAny_pure (index_loop' n (i + 1) s ys (by omega) hi ?_ ?_)
        · rcases List.mem_cons.mp hx with h' | h'
          · exact absurd h'.symm e
          · exact h'
        · rw [show i + 1 + placeOf x ys = i + (placeOf x ys + 1) by omega]; exact h

theorem tuple_index_strs {prog : Program} {w : World} {A : Around} {E : Value → Shared → Prop} {s : Shared} {t : Addr} {items : Array Value} {ys : List Str} {x : Str} {u : Tok} {P : Fin → Shared → Prop} (ht : IsTup s.heap t items) (hi : StrsAre items.toList ys) (hx : x ∈ ys)
    (h : P (.done (.ret (.int (placeOf x ys : Nat) s.toks))) { s with toks := s.toks + 1 }) : wpAny (model prog w) A (Builtin.«tuple.index» ⟨[.ref t, .str x u], []⟩) P E s := by
  unfold Builtin.«tuple.index»
  show wpAny _ _ (Builtin.Tuple.tupleItemsOf (.ref t) >>= _) _ _ s
  refine wpAny_bind (tupleItemsOf_ ht ?_)
  show wpAny _ _ (do
    let s ← forIn (m := Sem) [0:min items.size items.size] ((none : Option PySem.Fin), ()) _
    _) _ _ s
  refine wpAny_bind ?_
  rw [Std.Legacy.Range.forIn_eq_forIn_range']
  have e : [0:min items.size items.size].size = items.size := by simp [Std.Legacy.Range.size]
  rw [e]
  refine index_loop' (items := items) items.size 0 s ys (by omega) (by simpa using hi) hx ?_
  rw [Nat.zero_add]
  exact wpAny_pure h

section
variable {X : Post Value} {a : Act} {m : Map} {M I : Led} {Q : Post Value} {P : PostS} {n : Nat} {scope : Scope}
theorem tup_index {l c x t vs ys} (hl : At M I l (Tu vs c)) (hi : StrsAre vs ys) (hx : x ∈ ys) (h : ∀ t', Q (.int (placeOf x ys : Nat) t') M I) : Ex a (call (.builtin "tuple.index") [.ref l, .str x t]) m M I Q X :=
  fun mf H s hm S => wpAny_call_entry PySem.F.slot_tuple_index (hl.isTup S).typeIs PySem.F.entry_tuple_index (tuple_index_strs (hl.isTup S) (by simpa using hi) hx ⟨_, rfl, S.here (h _)⟩) (PySem.F.args_tuple_index_2 _ _)
theorem method_tu {l vs c} {name : Str} {id : String} {pl : Sem Bool} {P : Post (Value × List Value)} (hl : At M I l (Tu vs c)) (hs : Slot "tuple" name id) (ht : typeOf (.builtin id) = pure (.type "method_descriptor")) (h : P (.builtin id, [.ref l]) M I) : Ex a (getMethod (.ref l) name pl) m M I P X :=
  fun _ _ _ _ S => getMethod_builtin (hl.isTup S).typeIs PySem.F.plainAttrs_tuple hs ht (fun b e => by cases e; exact ⟨_, S.at hl, rfl⟩) (S.here h)
theorem method_di {d o kvs} {pl : Sem Bool} {P : Post (Value × List Value)} (hd' : At M I d o) (ho : o.IsDictOf (SK a.w) kvs) (h : P (.builtin "dict.get", [.ref d]) M I) : Ex a (getMethod (.ref d) "get" pl) m M I P X :=
  fun _ _ _ _ S => kdg_method S.N (S.mem hd') ho (S.here h)
theorem dict_get {d o kvs x t} (lo : (d == sysModules) = false) (hd' : At M I d o) (ho : o.IsDictOf (SK a.w) kvs) (h : Q ((valueAt kvs x).getD .none) M I) : Ex a (call (.builtin "dict.get") [.ref d, .str x t]) m M I Q X :=
  fun _ _ _ _ S => kdg_get1 S.N (S.mem hd') ho lo (strKind_is PG a.w x t) _ rfl (S.here h)
theorem method_join {x t} {pl : Sem Bool} {P : Post (Value × List Value)} (h : P (.builtin "str.join", [.str x t]) M I) : Ex a (getMethod (.str x t) "join" pl) m M I P X :=
  fun _ _ _ _ S => GM.join (S.here h)
theorem join_li {x t l vs c ys} (hl : At M I l (Li vs c)) (hi : StrsAre vs ys) (hx : x.length ≤ 16) (hz : (ys.map (·.length)).sum + ys.length ≤ 1048576) (h : ∀ t', Q (.str (Txt.join x ys) t') M I) : Ex a (call (.builtin "str.join") [.str x t, .ref l]) m M I Q X :=
  fun _ _ _ _ S => join_listW (hl.isList S) (by simpa using hi) hx hz fun _ _ => S.here (h _)

theorem dat_shaped {d : Dat} (h : kqdOk 8 d = true) : SeqAt.shaped (kqdP d) = true := by
  have l := kqd_lay 8 d h
  unfold SeqAt.shaped
  rw [l.1, Bool.true_and]
  exact decide_eq_true (Nat.le_trans l.2 (by decide))
open Classical in
theorem dat_eqv {d e : Dat} (hd : kqdOk 8 d = true) (he : kqdOk 8 e = true) : PyData.eqv (kqdP d) (kqdP e) = decide (d = e) := by
  have q := kqd_eqv 8 d e 8 hd he
  by_cases h : d = e
  · rw [decide_eq_true h]; exact q.mpr h
  · rw [decide_eq_false h]; exact Bool.eq_false_iff.mpr fun x => h (q.mp x)
open Classical in
theorem eq_dat (ok : a.Ok n) {u v : Value} {d e : Dat} (hu : DatIn (M ++ I) u d) (hv : DatIn (M ++ I) v e) (hd' : kqdOk 8 d = true) (he : kqdOk 8 e = true) (h : Q (.bool (decide (d = e))) M I) : Ex a (compareOp .Eq u v) m M I Q X := by
  intro mf H s hm S
  obtain ⟨as, ra⟩ := kqd_in S.N 8 (hu.mono fun _ h => List.mem_append_right _ h) hd'
  obtain ⟨bs, rb⟩ := kqd_in S.N 8 (hv.mono fun _ h => List.mem_append_right _ h) he
  exact eq_dataH ra rb (dat_shaped hd') (dat_shaped he) (by have := ok.hu; have : cLine = 9900 := rfl; omega) (S.here (by rw [dat_eqv hd' he]; exact h))
open Classical in
theorem ne_dat (ok : a.Ok n) {u v : Value} {d e : Dat} (hu : DatIn (M ++ I) u d) (hv : DatIn (M ++ I) v e) (hd' : kqdOk 8 d = true) (he : kqdOk 8 e = true) (h : Q (.bool (!decide (d = e))) M I) : Ex a (compareOp .NotEq u v) m M I Q X := by
  intro mf H s hm S
  obtain ⟨as, ra⟩ := kqd_in S.N 8 (hu.mono fun _ h => List.mem_append_right _ h) hd'
  obtain ⟨bs, rb⟩ := kqd_in S.N 8 (hv.mono fun _ h => List.mem_append_right _ h) he
  exact ne_dataH ra rb (dat_shaped hd') (dat_shaped he) (by have := ok.hu; have : cLine = 9900 := rfl; omega) (S.here (by rw [dat_eqv hd' he]; exact h))

/-- a list made of the items that pass a test -/
noncomputable def IsLst (o : Obj) (vs : List Value) : Prop := o.cls = .type "list" ∧ ∃ k, o.data = .seq vs.toArray k
noncomputable def TestIs (w : World) (A : Around) (env : Env) (x : Str) (c : Expr) (sc : Scope) (v : Value) (b : Bool) : Prop :=
  ∀ C s₂ m₂ E', s₂.heap.Ns C m₂ → m₂ x = some v → wpAny (model PG w) A (PySem.isTrue c (compEnv sc C env) (eval c (compEnv sc C env))) (fun ok s₃ => ok = b ∧ Keeps s₂ s₃) E' s₂

theorem paired_eq {l r : List Value} (h : Paired (fun v y : Value => y = v) l r) : r = l := by
  induction h with
  | nil => rfl
  | cons h _ ih => rw [h, ih]
inductive kCi (a : Act) (x : Str) (c : Expr) (sc : Scope) (p : Value → Bool) (Q : Post Value) (v : Value) (M' I' : Led) : Prop
  | mk (l : Addr) (vs : List Value) (k : Nat) (e : v = .ref l) (hl : At M' I' l (Li vs k)) (hz : vs.length ≤ sizeLine) (ht : ∀ v ∈ vs, TestIs a.w a.A a.env x c sc v (p v)) (fin : ∀ D o, IsLst o (vs.filter p) → Q (.ref D) M' ((D, o) :: I'))
theorem E_comp_if (ok : a.Ok n) {iter c : Expr} {x : Str} {px px2 : Pos} {sc : Scope} {pos : Pos} (p : Value → Bool) (hfr : (sc.names.all fun p => p.2 != .free) = true) (hce : (sc.names.all fun p => p.2 != .cell) = true) (hkind : sc.kind = .function) (hl : locAll sc = true) (hx : sc.names.lookup x = some .local) (hxd : (x == ("__debug__" : Str)) = false)
    (hfs : ∀ x, foldedSetIterable iter a.env x = pure x)
    (h : Ex a (eval iter a.env) m M I (kCi a x c sc p Q) X) :
    Ex a (eval (.ListComp (.Name x px2) [⟨.Name x px, iter, [c], 0⟩] sc pos) a.env) m M I Q X := by
  intro mf H s hm S
  have free' : ∀ y ∈ sc.names, y.2 ≠ .free := fun y hy => by simpa using List.all_eq_true.mp hfr y hy
  refine wpAny_ListComp_map p (fun v y => y = v) ok.hh free' (sub_names _ hce) hkind (locAll_of hl) hx (wpAny_mono (h mf H s hm S) ?_ fun _ _ h => h) hfs
  rintro v s1 ⟨M1, I1, S1, hI, hs, l, vs, k, rfl, hl', hz, ht, fin⟩
  refine ⟨l, vs.toArray, rfl, hl'.isList S1, by simpa using hz, ?_, ?_, ?_⟩
  · intro C v s₂ m₂ E' hv hns hmx _
    exact wpAny_tests_one (ht v (by simpa using hv) C s₂ m₂ E' hns hmx)
  · intro C v s₂ m₂ E' hv hp hns hmx _
    have hk : (compEnv sc C a.env).kindOf x = some .local := hx
    exact wpAny_Name (wpAny_loadName_local hkind hk hns hmx ⟨rfl, _, _, rfl, fun _ _ e => e⟩) hxd
  · intro D h' tk ys hD hL hP hk
    obtain ⟨o, ho, hc, q, hd'⟩ := hL
    have e := paired_eq hP
    have e2 : ys = (vs.filter p).toArray := by
      apply Array.toList_inj.mp
      rw [e]
    have hn : ∀ q ∈ H ++ (M1 ++ I1), q.1 ≠ D := fun q hq e => by
      have := (S1.N q hq).1
      rw [e, hD] at this; cases this
    have F' : Fr a.h₀ a.L h' mf := S1.F.keeps hk
    have N' : News a.h₀ a.L h' ((D, o) :: (H ++ (M1 ++ I1))) := fun q hq => by
      rcases List.mem_cons.mp hq with rfl | hq
      · refine ⟨ho, ?_, ?_⟩
        · intro e
          obtain ⟨oL, _, _, hLo, _⟩ := S1.F.ns
          have e : D = a.L := e
          rw [← e, hD] at hLo; cases hLo
        · cases z : a.h₀.get? D with
          | none => rfl
          | some o' => have := S1.F.keep _ _ z; rw [hD] at this; cases this
      · have y := S1.N q hq
        exact ⟨hk _ _ y.1, y.2⟩
    refine ⟨M1, (D, o) :: I1, ⟨F', news_perm (perm_mid ..) N', nodup_perm (perm_mid ..) (nodup_cons S1.D hn)⟩, hI.trans (List.subset_cons_self _ _), hs.trans ⟨rfl, rfl, rfl⟩, fin D o ⟨hc, q, by rw [hd', e2]⟩⟩
theorem len_any {D o vs} (hl : At M I D o) (ho : IsLst o vs) (hz : vs.length < 2 ^ 63) (h : ∀ t, Q (.int vs.length t) M I) : Ex a (call (.builtin "len") [.ref D]) m M I Q X := by
  obtain ⟨hc, k, hd'⟩ := ho
  exact fun _ _ _ _ S => len_list ⟨o, S.at hl, hc, k, hd'⟩ (by simp; omega) (S.here (by simpa using h _))
theorem test_notnone {env : Env} {x : Str} {sc : Scope} {A : Around} {w : World} {p1 p2 : Pos} {k : Nat} {p3 : Pos} (hkind : sc.kind = .function) (hx : sc.names.lookup x = some .local) (hxd : (x == ("__debug__" : Str)) = false) (v : Value) : TestIs w A env x (.Compare (.Name x p1) [.IsNot] [.Constant .none k p2] p3) sc v (!(v == .none)) := by
  intro C s₂ m₂ E' hns hmx
  have hk : (compEnv sc C env).kindOf x = some .local := hx
  refine wpAny_isTrue_Compare1 (wpAny_Name (wpAny_loadName_local hkind hk hns hmx ?_) hxd) rfl
  exact wpAny_Constant_none (isnot_none_gen (wpAny_truthy_bool ⟨rfl, _, _, rfl, fun _ _ e => e⟩))
theorem test_nestr {env : Env} {x y : Str} {sc : Scope} {A : Around} {w : World} {p1 p2 : Pos} {k : Nat} {p3 : Pos} (hkind : sc.kind = .function) (hx : sc.names.lookup x = some .local) (hxd : (x == ("__debug__" : Str)) = false) (z : Str) (t : Tok) : TestIs w A env x (.Compare (.Name x p1) [.NotEq] [.Constant (.str y) k p2] p3) sc (.str z t) (z != y) := by
  intro C s₂ m₂ E' hns hmx
  have hk : (compEnv sc C env).kindOf x = some .local := hx
  refine wpAny_isTrue_Compare1 (wpAny_Name (wpAny_loadName_local hkind hk hns hmx ?_) hxd) rfl
  exact wpAny_Constant_str (ne_str (wpAny_truthy_bool ⟨rfl, _, _, rfl, fun _ _ e => e⟩))
end
end
section
theorem filterMap_range {α : Type} (vs : List α) : ∀ (k i : Nat), i + k ≤ vs.length → (List.range k).filterMap (fun j => vs[i + j]?) = (vs.drop i).take k := by
  intro k
  induction k with
  | zero => intro i _; simp
  | succ k ih =>
    intro i h
    rw [List.range_succ, List.filterMap_append, ih i (by omega)]
    have e : vs[i + k]? = some (vs[i+k]'(by omega)) := List.getElem?_eq_getElem (by omega)
    rw [List.take_add_one]
    simp only [List.filterMap_cons, List.filterMap_nil, e, List.getElem?_drop]
    rfl
theorem slice_pick (vs : List Value) (i k : Nat) (h : i + k ≤ vs.length) : (slicePick vs.toArray (some (i : Int)) (some ((i + k : Nat) : Int)) none).toList = (vs.drop i).take k := by
  have b : sliceBounds (some (i : Int)) (some ((i + k : Nat) : Int)) none vs.toArray.size = ((i : Int), ((i + k : Nat) : Int), 1) := by
    unfold sliceBounds
    simp only [Option.getD_none, List.size_toArray]
    simp only [show ¬ ((i : Int) < 0) by omega, show ¬ (((i + k : Nat) : Int) < 0) by omega, if_false]
    simp only [show ((1 : Int) > 0) by decide, if_true]
    congr 1
    · omega
    · congr 1; omega
  unfold slicePick
  rw [b]
  unfold sliceRange
  simp only [show ((1 : Int) > 0) by decide, if_true, List.filterMap_map, Int.one_mul]
  rw [← filterMap_range vs k i h]
  by_cases hk : k = 0
  · subst hk; simp
  · rw [if_pos (by omega)]
    have e : ((((i + k : Nat) : Int) - (i : Int) + 1 - 1) / 1).toNat = k := by rw [Int.ediv_one]; omega
    rw [e]
    congr 1
    funext j
    simp only [Function.comp]
    rw [show ((i : Int) + (j : Int)).toNat = i + j by omega]
    simp
theorem slice_first (vs : List Value) (k : Nat) : (slicePick vs.toArray none (some (k : Int)) none).toList = vs.take k := by
  by_cases h : k ≤ vs.length
  · have e : slicePick vs.toArray none (some (k : Int)) none = slicePick vs.toArray (some ((0 : Nat) : Int)) (some ((0 + k : Nat) : Int)) none := by
      unfold slicePick
      have : sliceBounds none (some (k : Int)) none vs.toArray.size = sliceBounds (some ((0 : Nat) : Int)) (some ((0 + k : Nat) : Int)) none vs.toArray.size := by
        unfold sliceBounds; simp; omega
      rw [this]
    rw [e, slice_pick vs 0 k (by omega)]; simp
  · have e : slicePick vs.toArray none (some (k : Int)) none = slicePick vs.toArray (some ((0 : Nat) : Int)) (some ((0 + vs.length : Nat) : Int)) none := by
      unfold slicePick
      have : sliceBounds none (some (k : Int)) none vs.toArray.size = sliceBounds (some ((0 : Nat) : Int)) (some ((0 + vs.length : Nat) : Int)) none vs.toArray.size := by
        unfold sliceBounds; simp; omega
      rw [this]
    rw [e, slice_pick vs 0 vs.length (by omega)]
    simp only [List.drop_zero, List.take_length]
    exact (List.take_of_length_le (by omega)).symm
theorem slice_tail (vs : List Value) : (slicePick vs.toArray (some 1) none none).toList = vs.drop 1 := by
  cases vs with
  | nil => rfl
  | cons v vs =>
    have e : slicePick (v :: vs).toArray (some 1) none none = slicePick (v :: vs).toArray (some ((1 : Nat) : Int)) (some ((1 + vs.length : Nat) : Int)) none := by
      unfold slicePick
      have : sliceBounds (some 1) none none (v :: vs).toArray.size = sliceBounds (some ((1 : Nat) : Int)) (some ((1 + vs.length : Nat) : Int)) none (v :: vs).toArray.size := by
        unfold sliceBounds; simp; omega
      rw [this]
    rw [e, slice_pick _ 1 vs.length (by simp; omega)]
    simp
theorem DatAll.dropt {news : List (Addr × Obj)} {vs ds} (h : DatAll news vs ds) : ∀ i k, DatAll news ((vs.drop i).take k) ((ds.drop i).take k) := by
  induction vs generalizing ds with
  | nil => cases h; intro i k; simp; exact .nil
  | cons v vs ih =>
    cases h with
    | cons h r =>
      intro i k
      cases i with
      | succ i => simpa using ih r i k
      | zero =>
        cases k with
        | zero => simp; exact .nil
        | succ k => simpa using .cons h (by simpa using ih r 0 k)
theorem DatAll.at {news : List (Addr × Obj)} {vs ds} (h : DatAll news vs ds) {k : Nat} {d : Dat} (e : ds[k]? = some d) : ∃ v, vs[k]? = some v ∧ DatIn news v d := by
  obtain ⟨hk, rfl⟩ := List.getElem?_eq_some_iff.mp e
  exact h.get hk
/-- columns of one length, one behind the other -/
theorem flat_col {α : Type} {n : Nat} : ∀ {cols : List (List α)}, (∀ c ∈ cols, c.length = n) → ∀ {p : Nat} {c : List α}, cols[p]? = some c → (cols.flatten.drop (p * n)).take n = c ∧ p * n + n ≤ cols.flatten.length
  | [], _, _, _, e => by simp at e
  | c0 :: r, h, 0, c, e => by
    simp at e; subst e
    have := h c0 (.head _)
    simp [← this]
  | c0 :: r, h, p + 1, c, e => by
    have h0 := h c0 (.head _)
    obtain ⟨i1, i2⟩ := flat_col (fun c hc => h c (.tail _ hc)) (p := p) (c := c) (by simpa using e)
    refine ⟨?_, ?_⟩
    · rw [List.flatten_cons, show (p + 1) * n = c0.length + p * n by rw [Nat.add_mul, h0]; omega, ← List.drop_drop, List.drop_left]
      exact i1
    · rw [List.flatten_cons, List.length_append, Nat.add_mul]; omega
theorem flat_at {α : Type} {n : Nat} {cols : List (List α)} (h : ∀ c ∈ cols, c.length = n) {p i : Nat} {c : List α} {x : α} (e : cols[p]? = some c) (ei : c[i]? = some x) : cols.flatten[p * n + i]? = some x := by
  obtain ⟨h1, h2⟩ := flat_col h e
  have hi : i < n := by rw [← h c (List.mem_of_getElem? e)]; exact (List.getElem?_eq_some_iff.mp ei).1
  rw [← h1, List.getElem?_take, if_pos hi, List.getElem?_drop] at ei
  exact ei
theorem flat_len {α : Type} {n : Nat} : ∀ {cols : List (List α)}, (∀ c ∈ cols, c.length = n) → cols.flatten.length = cols.length * n
  | [], _ => by simp
  | c :: r, h => by
    rw [List.flatten_cons, List.length_append, flat_len fun c hc => h c (.tail _ hc), h c (.head _), List.length_cons, Nat.add_mul]; omega
noncomputable def tr {α : Type} (z : α) (n : Nat) (cols : List (List α)) : List (List α) := (List.range n).map fun i => cols.map fun c => c.getD i z
theorem tr_len {α : Type} {z : α} {n : Nat} {cols : List (List α)} : (tr z n cols).length = n := by simp [tr]
theorem tr_mem {α : Type} {z : α} {n : Nat} {cols : List (List α)} : ∀ c ∈ tr z n cols, c.length = cols.length := by
  intro c hc
  obtain ⟨i, _, rfl⟩ := List.mem_map.mp hc
  simp
noncomputable def trA {α : Type} (z : α) (n : Nat) (cols : List (List α)) (i j : Nat) : List α := ((tr z n cols).take i).flatten ++ (cols.map fun c => c.getD i z).take j
theorem trA_zero {α : Type} {z : α} {n : Nat} {cols : List (List α)} : trA z n cols 0 0 = [] := by simp [trA]
theorem trA_next {α : Type} {z : α} {n i j : Nat} {cols : List (List α)} {c : List α} {x : α} (e : cols[j]? = some c) (ei : c[i]? = some x) : trA z n cols i (j + 1) = trA z n cols i j ++ [x] := by
  unfold trA
  rw [List.take_add_one, List.append_assoc]
  congr 2
  simp only [List.getElem?_map, e, Option.map_some, Option.toList_some, List.getD_eq_getElem?_getD, ei, Option.getD_some]
theorem trA_row {α : Type} {z : α} {n i : Nat} {cols : List (List α)} (hi : i < n) : trA z n cols i cols.length = trA z n cols (i + 1) 0 := by
  have e1 : (cols.map fun c => c.getD i z).take cols.length = cols.map fun c => c.getD i z := List.take_of_length_le (Nat.le_of_eq (List.length_map _))
  have e2 : (tr z n cols)[i]? = some (cols.map fun c => c.getD i z) := by simp only [tr, List.getElem?_map, List.getElem?_range hi, Option.map_some]
  unfold trA
  rw [e1, List.take_add_one, List.flatten_append, e2, List.take_zero, List.append_nil, Option.toList_some, List.flatten_cons, List.flatten_nil, List.append_nil]
theorem trA_all {α : Type} {z : α} {n : Nat} {cols : List (List α)} : trA z n cols n 0 = (tr z n cols).flatten := by
  unfold trA
  rw [List.take_of_length_le (by simp [tr])]; simp
theorem trA_len {α : Type} {z : α} {n i j : Nat} {cols : List (List α)} (hn : n ≤ 20) (hc : cols.length ≤ 20) (hi : i ≤ n) : (trA z n cols i j).length ≤ 420 := by
  unfold trA
  have l3 : ((tr z n cols).take i).flatten.length ≤ 400 := by
    rw [flat_len (n := cols.length) fun c hc => tr_mem c (List.mem_of_mem_take hc)]
    have l4 : ((tr z n cols).take i).length ≤ 20 := by rw [List.length_take]; omega
    exact Nat.mul_le_mul l4 hc
  rw [List.length_append, List.length_take, List.length_map]
  omega
theorem small_mul {x y : Int} (h1 : -(2 ^ 64) < x) (h2 : x < 2 ^ 64) (h3 : -(2 ^ 64) < y) (h4 : y < 2 ^ 64) : IntMulOk x y := IntMulOk.of_le (intBits_le_64 h1 h2) (intBits_le_64 h3 h4) (by decide)
end
theorem warm1 : ∃ K : Params → Frag, K = hd.heap_39 ∧ PySem.Challenge.rw_ov0081_01 = PySem.Challenge.rw_ov0081_01 := by k_fill; exact ⟨_, rfl, rfl⟩
theorem ite_t {A B : Prop} (h : A) : if true = true then A else B := h
theorem ite_f {A B : Prop} (h : B) : if false = true then A else B := h
theorem upd_at {m : Map} {x : Str} {v : Value} : upd m x v x = some v := by simp [upd]
theorem upd_ne {m : Map} {x y : Str} {v : Value} (h : x ≠ y) : upd m y v x = m x := by simp [upd, h]
theorem comp_kind {a : Act} {sc : Scope} {C : Addr} {y : Str} : (a.comp sc C).env.kindOf y = (sc.names.lookup y).map fun k => if (k == NameKind.free && a.env.scope.kind == ScopeKind.function && a.env.kindOf y == some NameKind.cell) = true then .cell else k := lookup_relabel y
theorem ite_tc {c : Bool} {A B : Prop} (h : c = true) (q : A) : if c = true then A else B := by rw [if_pos h]; exact q
theorem ite_fc {c : Bool} {A B : Prop} (h : c = false) (q : B) : if c = true then A else B := by rw [if_neg (by rw [h]; exact Bool.false_ne_true)]; exact q
theorem comp_loc {a : Act} {sc : Scope} {C : Addr} {y : Str} (h : sc.names.lookup y = some .local) : (a.comp sc C).env.kindOf y = some .local := by rw [comp_kind, h]; rfl
theorem comp_glob {a : Act} {sc : Scope} {C : Addr} {y : Str} (h : sc.names.lookup y = some .globalImplicit) : (a.comp sc C).env.kindOf y = some .globalImplicit := by rw [comp_kind, h]; rfl
theorem comp_cell {a : Act} {sc : Scope} {C : Addr} {y : Str} (h : sc.names.lookup y = some .free) (h2 : a.env.scope.kind = .function) (h3 : a.env.kindOf y = some .cell) : (a.comp sc C).env.kindOf y = some .cell := by rw [comp_kind, h, h2, h3]; rfl
theorem drop_ne {m : Map} {x : Str} (h : x ≠ (".0" : Str)) : drop0 m x = m x := by simp [drop0, h]
theorem sw_is {value : Expr} {y : Str} {py : Pos} {l : Nat} {a : Act} {scope : Scope} (fm : Fm a scope) (h : ∀ fe : Env, fe.scope = scope → swapsWith value (some (.Name y py)) l fe = pure true) : swapsWith value (some (.Name y py)) l a.env = pure true := h _ fm.sc
theorem Es.freeze {a : Act} {m : Map} {M I : Led} {X : Post Value} {es : List Expr} {pos : Pos} {P : Post (List Value)} {p : Addr × Obj} (h : Es a es pos m M (p :: I) P X) : Es a es pos m (p :: M) I P X := Ex.freeze h
theorem Ep.freeze {a : Act} {m : Map} {M I : Led} {X : Post Value} {ks : List (Option Expr)} {es : List Expr} {pos : Pos} {P : Post (List (Value × Value))} {p : Addr × Obj} (h : Ep a ks es pos m M (p :: I) P X) : Ep a ks es pos m (p :: M) I P X := Ex.freeze h
/-- kp_flats: a variable's value -/
local macro_rules | `(tactic| kp_flats) => `(tactic| first | exact upd_at | assumption | (refine (upd_ne (by decide)).trans ?_; kp_flats) | (refine (drop_ne (by decide)).trans ?_; kp_flats))
/-- k_places: a name's kind -/
local macro_rules | `(tactic| k_places) => `(tactic| first
  | (show List.lookup _ (Act.env _).scope.names = _; rw [Fm.sc (by assumption)]; rfl)
  | (left; show List.lookup _ (Act.env _).scope.names = _; rw [Fm.sc (by assumption)]; rfl)
  | (right; show List.lookup _ (Act.env _).scope.names = _; rw [Fm.sc (by assumption)]; rfl)
  | ((with_reducible refine' comp_loc ?hq); (case hq => rfl))
  | ((with_reducible refine' comp_glob ?hq); (case hq => rfl))
  | ((with_reducible refine' comp_cell ?hq ?hr ?hs); (case hq => rfl); (case hr => exact Act.Ok.ek (by assumption)); (case hs => k_places)))
/-- kd_adr: the act is well -/
local macro_rules | `(tactic| kd_adr) => `(tactic| first | assumption | exact Act.Ok.comp (by assumption) (by rfl) _)
/-- k_all: no interactive block -/
local macro_rules | `(tactic| k_all) => `(tactic| (unfold interactive; rw [Act.Ok.ek (by assumption)]; rfl))
/-- isplit: one step -/
local macro_rules | `(tactic| isplit) => `(tactic| with_reducible (first
  | (intro (hz__ : (_ : Led) ⊆ _); clear hz__)
  | refine Es.nil ?_
  | (refine' Es.cons ?_ ?hs; (case hs => with_unfolding_all rfl))
  | refine E_int (fun _ => ?_)
  | refine E_str (fun _ => ?_)
  | refine E_none ?_
  | refine E_bool ?_
  | refine E_binop ?_
  | (refine' E_attr ?_ ?hs; (case hs => with_unfolding_all rfl))
  | (refine' E_slice ?_ ?hs; (case hs => intros; with_unfolding_all rfl))
  | refine E_sub ?_
  | refine E_ifexp ?_
  | refine E_bool1 ?_
  | refine E_or ?_
  | refine E_and ?_
  | refine E_tuple ?_
  | refine E_list ?_
  | refine E_unary ?_
  | (refine' E_compare ?hs ?_; (case hs => with_unfolding_all rfl))
  | (refine' E_local ?k0 ?k1 ?k2 ?_ ?k3; (case k2 => with_unfolding_all k_places); (case k0 => kd_adr); (case k1 => with_unfolding_all kp_flats); (case k3 => with_unfolding_all decide))
  | (refine' E_cell ?k0 ?k1 ?k2 ?_ ?k3; (case k2 => with_unfolding_all k_places); (case k0 => kd_adr); (case k1 => with_unfolding_all kp_flats); (case k3 => with_unfolding_all decide))
  | (refine' E_global ?k0 ?k1 ?k2 ?_ ?k3; (case k0 => kd_adr); (case k1 => with_unfolding_all k_is); (case k2 => with_unfolding_all k_places); (case k3 => with_unfolding_all decide))
  | (refine' E_callK ?k0 ?k1 ?k2 ?k3 ?_ ?k4 ?k5 ?k6 ?k7; (case k0 => kd_adr); (case k1 => with_unfolding_all k_is); (case k2 => with_unfolding_all k_places); (case k3 => with_unfolding_all k_is); (case k4 => with_unfolding_all rfl); (case k5 => with_unfolding_all rfl); (case k6 => with_unfolding_all decide); (case k7 => with_unfolding_all rfl))
  | (refine' E_callK0 ?k0 ?k1 ?k2 ?k3 ?_ ?k6 ?k7; (case k0 => kd_adr); (case k1 => with_unfolding_all k_is); (case k2 => with_unfolding_all k_places); (case k3 => with_unfolding_all k_is); (case k6 => with_unfolding_all decide); (case k7 => with_unfolding_all rfl))
  | (refine' E_callB ?k0 ?k1 ?k2 ?k3 ?k8 ?_ ?k4 ?k5 ?k6 ?k7; (case k0 => kd_adr); (case k1 => with_unfolding_all k_is); (case k2 => with_unfolding_all boot_by_name); (case k3 => with_unfolding_all decide); (case k8 => with_unfolding_all k_places); (case k4 => with_unfolding_all rfl); (case k5 => with_unfolding_all rfl); (case k6 => with_unfolding_all decide); (case k7 => with_unfolding_all rfl))
  | (refine' E_callT ?k0 ?k1 ?k2 ?k3 ?k8 ?_ ?k4 ?k5 ?k6 ?k7; (case k0 => kd_adr); (case k1 => with_unfolding_all k_is); (case k2 => with_unfolding_all boot_by_name); (case k3 => with_unfolding_all decide); (case k8 => with_unfolding_all k_places); (case k4 => with_unfolding_all rfl); (case k5 => with_unfolding_all rfl); (case k6 => with_unfolding_all decide); (case k7 => with_unfolding_all rfl))
  | refine T_not ?_
  | refine T_and_nil ?_
  | refine T_or_nil ?_
  | refine T_and ?_
  | refine T_or ?_
  | (refine' T_compare ?hs ?_; (case hs => with_unfolding_all rfl))
  | refine T_ifexp ?_
  | refine truthy_b ?_
  | (refine' ite_tc ?h ?_; (case h => with_unfolding_all rfl))
  | (refine' ite_fc ?h ?_; (case h => with_unfolding_all rfl))
  | refine Xs.nil ?_
  | refine Xs.cons ?_
  | refine X_return ?_
  | refine X_if ?_
  | (refine' X_assign ?k0 ?k1 ?k2 ?k3 ?_; (case k0 => kd_adr); (case k1 => assumption); (case k2 => with_unfolding_all k_places); (case k3 => with_unfolding_all rfl))
  | (refine' X_attr ?k3 ?_; (case k3 => with_unfolding_all rfl))
  | (refine' X_sub ?k3 ?_; (case k3 => with_unfolding_all rfl))
  | (refine' X_aug ?k0 ?k1 ?k2 ?k3 ?_; (case k2 => with_unfolding_all k_places); (case k0 => kd_adr); (case k1 => assumption); (case k3 => with_unfolding_all kp_flats))
  | (refine' X_unpack2 ?k0 ?k1 ?k2 ?k3 ?k4 ?k5 ?_; (case k0 => kd_adr); (case k1 => assumption); (case k2 => with_unfolding_all k_places); (case k3 => with_unfolding_all k_places); (case k4 => with_unfolding_all rfl); (case k5 => with_unfolding_all rfl))
  | (refine' X_expr ?k3 ?k4 ?_; (case k3 => with_unfolding_all k_all); (case k4 => with_unfolding_all rfl))
  | refine X_continue ?_
  | refine Ep.nil ?_
  | refine Ep.cons ?_
  | (refine' E_dict ?k0 ?k1 ?k2 ?k3 ?k4 ?k5 ?_; (case k0 => kd_adr); (case k1 => with_unfolding_all rfl); (case k2 => with_unfolding_all rfl); (case k3 => with_unfolding_all rfl); (case k4 => with_unfolding_all exact List.cons_ne_nil _ _); (case k5 => with_unfolding_all decide))
  | refine is_n ?_
  | refine isnot_n ?_
  | refine eq_ss ?_
  | refine ne_ss ?_
  | refine eq_ii ?_
  | refine ne_ii ?_
  | refine lt_ii ?_
  | refine le_ii ?_
  | refine gt_ii ?_
  | refine ge_ii ?_
  | refine add_ii (fun _ => ?_)
  | refine iadd_ii (fun _ => ?_)
  | refine sub_ii (fun _ => ?_)
  | fail "step"))
/-- a call of a def of the text -/
local macro_rules | `(tactic| ktr_room) => `(tactic| ((case ho => k_is); (case hcd => k_is); (case hb => exact fun s X => BindsTo.of_eq rfl); (case hk => rfl); (case hnd => decide +kernel); (case hco => rfl); (case hgen => rfl); (case hkk => rfl); skip))

/-- kst_mem: as far as the rules go -/
local macro_rules | `(tactic| kst_mem) => `(tactic| ((try dsimp only [bindM, List.foldl_cons, List.foldl_nil]); repeat isplit))
/-- kst_p: the head is never changed again -/
local macro_rules | `(tactic| kst_p) => `(tactic| with_reducible first | refine Es.freeze ?_ | refine Ep.freeze ?_ | refine Xs.freeze ?_ | refine Ex.freeze ?_)
/-- kqd_sub: ledgers grow -/
local macro_rules | `(tactic| kqd_sub) => `(tactic| with_reducible first | exact List.Subset.refl _ | assumption | (refine List.subset_cons_of_subset _ ?_; kqd_sub) | (refine List.Subset.trans ?_ (by assumption); kqd_sub))
section
/-! what stands in the ledger -/
inductive LiI (I : Led) (v : Value) (vs : List Value) : Prop
  | mk (l : Addr) (c : Nat) (e : v = .ref l) (h : (l, Li vs c) ∈ I)
inductive VecI (I : Led) (v : Value) (kind : Str) (iv : Value) (at_ : Value) : Prop
  | mk (x dx : Addr) (o : Obj) (t : Tok) (sh lo : Value) (e : v = .ref x) (h1 : (x, instObj 99 dx) ∈ I) (h2 : (dx, o) ∈ I) (f : FD [("kind", .str kind t), ("items", iv), ("attrs", at_), ("shared", sh), ("loose", lo)] o)
inductive NulI (I : Led) (v : Value) : Prop
  | mk (x dx : Addr) (o : Obj) (t : Tok) (e : v = .ref x) (h1 : (x, instObj 70 dx) ∈ I) (h2 : (dx, o) ∈ I) (f : FD [("kind", .str "NULL" t), ("attrs", .none)] o)
inductive DicI (w : World) (I : Led) (v : Value) (kvs : List (Str × Value)) : Prop
  | mk (d : Addr) (o : Obj) (e : v = .ref d) (h : (d, o) ∈ I) (hd : o.IsDictOf (SK w) kvs) (lo : (d == sysModules) = false)

theorem LiI.mono {I I' : Led} {v vs} (h : LiI I v vs) (s : I ⊆ I') : LiI I' v vs := by obtain ⟨l, c, e, h⟩ := h; exact ⟨l, c, e, s h⟩
theorem VecI.mono {I I' : Led} {v k iv at_} (h : VecI I v k iv at_) (s : I ⊆ I') : VecI I' v k iv at_ := by obtain ⟨x, dx, o, t, sh, lo, e, h1, h2, f⟩ := h; exact ⟨x, dx, o, t, sh, lo, e, s h1, s h2, f⟩
theorem NulI.mono {I I' : Led} {v} (h : NulI I v) (s : I ⊆ I') : NulI I' v := by obtain ⟨x, dx, o, t, e, h1, h2, f⟩ := h; exact ⟨x, dx, o, t, e, s h1, s h2, f⟩
theorem DicI.mono {w : World} {I I' : Led} {v kvs} (h : DicI w I v kvs) (s : I ⊆ I') : DicI w I' v kvs := by obtain ⟨d, o, e, h1, h2, h3⟩ := h; exact ⟨d, o, e, s h1, h2, h3⟩


section
variable {X : Post Value} {a : Act} {m : Map} {M I : Led} {n : Nat} {Q : Post Value}

theorem g_kind (ok : a.Ok n) {v k iv at_} {I₀ : Led} (h : VecI I₀ v k iv at_) (q : ∀ t, Q (.str k t) M I) (s₀ : I₀ ⊆ I := by kqd_sub) : Ex a (getAttr v "kind" true) m M I Q X := by
  replace h := h.mono s₀
  obtain ⟨x, dx, o, t, sh, lo, rfl, h1, h2, f⟩ := h
  refine' get_field ok (.ofI h1) (.ofI h2) f ?k1 ?k2 ?k3 ?k4 ?k5 ?k6 (q t)
  case k1 => k_is
  case k2 => k_is
  case k3 => k_is
  case k4 => k_is
  case k5 => rfl
  case k6 => rfl
theorem g_items (ok : a.Ok n) {v k iv at_} {I₀ : Led} (h : VecI I₀ v k iv at_) (hi : handedIn iv = true) (q : Q iv M I) (s₀ : I₀ ⊆ I := by kqd_sub) : Ex a (getAttr v "items" true) m M I Q X := by
  replace h := h.mono s₀
  obtain ⟨x, dx, o, t, sh, lo, rfl, h1, h2, f⟩ := h
  refine' get_field ok (.ofI h1) (.ofI h2) f ?k1 ?k2 ?k3 ?k4 ?k5 hi q
  case k1 => k_is
  case k2 => k_is
  case k3 => k_is
  case k4 => k_is
  case k5 => rfl
theorem g_attrs (ok : a.Ok n) {v k iv at_} {I₀ : Led} (h : VecI I₀ v k iv at_) (hi : handedIn at_ = true) (q : Q at_ M I) (s₀ : I₀ ⊆ I := by kqd_sub) : Ex a (getAttr v "attrs" true) m M I Q X := by
  replace h := h.mono s₀
  obtain ⟨x, dx, o, t, sh, lo, rfl, h1, h2, f⟩ := h
  refine' get_field ok (.ofI h1) (.ofI h2) f ?k1 ?k2 ?k3 ?k4 ?k5 hi q
  case k1 => k_is
  case k2 => k_is
  case k3 => k_is
  case k4 => k_is
  case k5 => rfl
theorem g_nkind (ok : a.Ok n) {v} {I₀ : Led} (h : NulI I₀ v) (q : ∀ t, Q (.str "NULL" t) M I) (s₀ : I₀ ⊆ I := by kqd_sub) : Ex a (getAttr v "kind" true) m M I Q X := by
  replace h := h.mono s₀
  obtain ⟨x, dx, o, t, rfl, h1, h2, f⟩ := h
  refine' get_field ok (.ofI h1) (.ofI h2) f ?k1 ?k2 ?k3 ?k4 ?k5 ?k6 (q t)
  case k1 => k_is
  case k2 => k_is
  case k3 => k_is
  case k4 => k_is
  case k5 => rfl
  case k6 => rfl
theorem DicI.handed {w : World} {v kvs} (h : DicI w I v kvs) : handedIn v = true := by obtain ⟨d, o, rfl, _⟩ := h; rfl
theorem LiI.handed {v vs} (h : LiI I v vs) : handedIn v = true := by obtain ⟨d, o, rfl, _⟩ := h; rfl
theorem VecI.handed {v k iv at_} (h : VecI I v k iv at_) : handedIn v = true := by obtain ⟨x, dx, o, t, sh, lo, rfl, _⟩ := h; rfl
theorem d_item {w : World} (hw : a.w = w) {v kvs x t u} {e i : Expr} {I₀ : Led} (h : DicI w I₀ v kvs) (hx : valueAt kvs x = some u) (q : Q u M I) (s₀ : I₀ ⊆ I := by kqd_sub)
    (hs : ∀ d, subscripted i false (.ref d) (.str x t) = operate [.ref d, .str x t] (getItem (.ref d) (.str x t)) := by intro _; rfl) : Ex a (subscriptTail e i v (.str x t)) m M I Q X := by
  replace h := h.mono s₀
  subst hw
  obtain ⟨d, o, rfl, h1, h2, lo⟩ := h
  exact dict_item (.ofI h1) h2 hx q (hs d)
theorem d_notin {w : World} (hw : a.w = w) {v kvs x t} {I₀ : Led} (h : DicI w I₀ v kvs) (q : Q (.bool (!(valueAt kvs x).isSome)) M I) (s₀ : I₀ ⊆ I := by kqd_sub) : Ex a (compareOp .NotIn (.str x t) v) m M I Q X := by
  replace h := h.mono s₀
  subst hw
  obtain ⟨d, o, rfl, h1, h2, lo⟩ := h
  exact notin_dict lo (.ofI h1) h2 rfl q
theorem l_item {v vs k t x} {e i : Expr} {I₀ : Led} (h : LiI I₀ v vs) (h0 : 0 ≤ k) (hb : k < 2 ^ 63) (hx : vs[k.toNat]? = some x) (q : Q x M I) (s₀ : I₀ ⊆ I := by kqd_sub)
    (hs : ∀ l, subscripted i false (.ref l) (.int k t) = operate [.ref l, .int k t] (getItem (.ref l) (.int k t)) := by intro _; rfl) : Ex a (subscriptTail e i v (.int k t)) m M I Q X := by
  replace h := h.mono s₀
  obtain ⟨l, c, rfl, h1⟩ := h
  exact list_item (.ofI h1) h0 hb hx q (hs l)
theorem l_len {v vs} {I₀ : Led} (h : LiI I₀ v vs) (hz : vs.length < 2 ^ 63) (q : ∀ t, Q (.int vs.length t) M I) (s₀ : I₀ ⊆ I := by kqd_sub) : Ex a (call (.builtin "len") [v]) m M I Q X := by
  replace h := h.mono s₀
  obtain ⟨l, c, rfl, h1⟩ := h
  exact len_li (.ofI h1) hz q

theorem DicI.ne {w : World} {v kvs} (h : DicI w I v kvs) : (v == Value.none) = false := by obtain ⟨d, o, rfl, _⟩ := h; rfl
theorem LiI.ne {v vs} (h : LiI I v vs) : (v == Value.none) = false := by obtain ⟨d, o, rfl, _⟩ := h; rfl
theorem VecI.ne {v k iv at_} (h : VecI I v k iv at_) : (v == Value.none) = false := by obtain ⟨x, dx, o, t, sh, lo, rfl, _⟩ := h; rfl


/-! makers -/
theorem c_vector3 (ok : a.Ok 3) {kv iv at_ : Value} (q : ∀ x dx o, FD [("kind", kv), ("items", iv), ("attrs", at_), ("shared", .bool false), ("loose", .bool false)] o → Q (.ref x) ((x, instObj 99 dx) :: (dx, o) :: M) I) : Ex a (call (.ref 99) [kv, iv, at_]) m M I Q X := by
  refine' Ex_make ok ?h1 ?h2 ?h3 ?_
  case h1 => k_is
  case h2 => k_is
  case h3 => k_is
  intro a' x dx hw' ok'
  refine' Cx_call (binds := [("self", .ref x), ("kind", kv), ("items", iv), ("attrs", at_)]) ok' ?ho ?hcd ?hb ?hk ?hnd ?hco ?hgen ?hkk ?_
  case ho => k_is
  case hcd => k_is
  case hb => exact fun s X => binds_K X rfl (by k_is) rfl rfl rfl
  case hk => rfl
  case hnd => decide +kernel
  case hco => rfl
  case hgen => rfl
  case hkk => rfl
  intro b okb hwb fm
  dsimp only [bindM, List.foldl_cons, List.foldl_nil]
  repeat isplit
  refine' set_field okb (M' := fun o' => (x, instObj 99 dx) :: (dx, o') :: M) (.ofM (.head _)) ⟨[], 0, rfl, .nil⟩ ?s1 ?s2 ?s3 ?s4 ?z ?U ?_
  case s1 => k_is
  case s2 => k_is
  case s3 => k_is
  case s4 => k_is
  case z => exact Nat.le_of_ble_eq_true rfl
  case U => exact fun o' => .tail .head
  intro o1 f1
  repeat isplit
  refine' set_field okb (M' := fun o' => (x, instObj 99 dx) :: (dx, o') :: M) (.ofM (.head _)) f1 ?s1 ?s2 ?s3 ?s4 ?z ?U ?_
  case s1 => k_is
  case s2 => k_is
  case s3 => k_is
  case s4 => k_is
  case z => exact Nat.le_of_ble_eq_true rfl
  case U => exact fun o' => .tail .head
  intro o2 f2
  repeat isplit
  refine' set_field okb (M' := fun o' => (x, instObj 99 dx) :: (dx, o') :: M) (.ofM (.head _)) f2 ?s1 ?s2 ?s3 ?s4 ?z ?U ?_
  case s1 => k_is
  case s2 => k_is
  case s3 => k_is
  case s4 => k_is
  case z => exact Nat.le_of_ble_eq_true rfl
  case U => exact fun o' => .tail .head
  intro o3 f3
  repeat isplit
  refine' set_field okb (M' := fun o' => (x, instObj 99 dx) :: (dx, o') :: M) (.ofM (.head _)) f3 ?s1 ?s2 ?s3 ?s4 ?z ?U ?_
  case s1 => k_is
  case s2 => k_is
  case s3 => k_is
  case s4 => k_is
  case z => exact Nat.le_of_ble_eq_true rfl
  case U => exact fun o' => .tail .head
  intro o4 f4
  repeat isplit
  refine' set_field okb (M' := fun o' => (x, instObj 99 dx) :: (dx, o') :: M) (.ofM (.head _)) f4 ?s1 ?s2 ?s3 ?s4 ?z ?U ?_
  case s1 => k_is
  case s2 => k_is
  case s3 => k_is
  case s4 => k_is
  case z => exact Nat.le_of_ble_eq_true rfl
  case U => exact fun o' => .tail .head
  intro o5 f5
  repeat isplit
  exact ⟨rfl, q x dx o5 f5⟩
theorem c_vector2 (ok : a.Ok 3) {kv iv : Value} (q : ∀ x dx o, FD [("kind", kv), ("items", iv), ("attrs", .none), ("shared", .bool false), ("loose", .bool false)] o → Q (.ref x) ((x, instObj 99 dx) :: (dx, o) :: M) I) : Ex a (call (.ref 99) [kv, iv]) m M I Q X := by
  refine' Ex_make ok ?h1 ?h2 ?h3 ?_
  case h1 => k_is
  case h2 => k_is
  case h3 => k_is
  intro a' x dx hw' ok'
  refine' Cx_call (binds := [("self", .ref x), ("kind", kv), ("items", iv), ("attrs", .none)]) ok' ?ho ?hcd ?hb ?hk ?hnd ?hco ?hgen ?hkk ?_
  case ho => k_is
  case hcd => k_is
  case hb => exact fun s X => binds_K X rfl (by k_is) rfl rfl rfl
  case hk => rfl
  case hnd => decide +kernel
  case hco => rfl
  case hgen => rfl
  case hkk => rfl
  intro b okb hwb fm
  dsimp only [bindM, List.foldl_cons, List.foldl_nil]
  repeat isplit
  refine' set_field okb (M' := fun o' => (x, instObj 99 dx) :: (dx, o') :: M) (.ofM (.head _)) ⟨[], 0, rfl, .nil⟩ ?s1 ?s2 ?s3 ?s4 ?z ?U ?_
  case s1 => k_is
  case s2 => k_is
  case s3 => k_is
  case s4 => k_is
  case z => exact Nat.le_of_ble_eq_true rfl
  case U => exact fun o' => .tail .head
  intro o1 f1
  repeat isplit
  refine' set_field okb (M' := fun o' => (x, instObj 99 dx) :: (dx, o') :: M) (.ofM (.head _)) f1 ?s1 ?s2 ?s3 ?s4 ?z ?U ?_
  case s1 => k_is
  case s2 => k_is
  case s3 => k_is
  case s4 => k_is
  case z => exact Nat.le_of_ble_eq_true rfl
  case U => exact fun o' => .tail .head
  intro o2 f2
  repeat isplit
  refine' set_field okb (M' := fun o' => (x, instObj 99 dx) :: (dx, o') :: M) (.ofM (.head _)) f2 ?s1 ?s2 ?s3 ?s4 ?z ?U ?_
  case s1 => k_is
  case s2 => k_is
  case s3 => k_is
  case s4 => k_is
  case z => exact Nat.le_of_ble_eq_true rfl
  case U => exact fun o' => .tail .head
  intro o3 f3
  repeat isplit
  refine' set_field okb (M' := fun o' => (x, instObj 99 dx) :: (dx, o') :: M) (.ofM (.head _)) f3 ?s1 ?s2 ?s3 ?s4 ?z ?U ?_
  case s1 => k_is
  case s2 => k_is
  case s3 => k_is
  case s4 => k_is
  case z => exact Nat.le_of_ble_eq_true rfl
  case U => exact fun o' => .tail .head
  intro o4 f4
  repeat isplit
  refine' set_field okb (M' := fun o' => (x, instObj 99 dx) :: (dx, o') :: M) (.ofM (.head _)) f4 ?s1 ?s2 ?s3 ?s4 ?z ?U ?_
  case s1 => k_is
  case s2 => k_is
  case s3 => k_is
  case s4 => k_is
  case z => exact Nat.le_of_ble_eq_true rfl
  case U => exact fun o' => .tail .head
  intro o5 f5
  repeat isplit
  exact ⟨rfl, q x dx o5 f5⟩
theorem c_null (ok : a.Ok 3) (q : ∀ x dx o t, FD [("kind", .str "NULL" t), ("attrs", .none)] o → Q (.ref x) ((x, instObj 70 dx) :: (dx, o) :: M) I) : Ex a (call (.ref 70) []) m M I Q X := by
  refine' Ex_make ok ?h1 ?h2 ?h3 ?_
  case h1 => k_is
  case h2 => k_is
  case h3 => k_is
  intro a' x dx hw' ok'
  refine' Cx_call (binds := [("self", .ref x)]) ok' ?ho ?hcd ?hb ?hk ?hnd ?hco ?hgen ?hkk ?_
  case ho => k_is
  case hcd => k_is
  case hb => exact fun s X => BindsTo.of_eq rfl
  case hk => rfl
  case hnd => decide +kernel
  case hco => rfl
  case hgen => rfl
  case hkk => rfl
  intro b okb hwb fm
  dsimp only [bindM, List.foldl_cons, List.foldl_nil]
  repeat isplit
  refine' set_field okb (M' := fun o' => (x, instObj 70 dx) :: (dx, o') :: M) (.ofM (.head _)) ⟨[], 0, rfl, .nil⟩ ?s1 ?s2 ?s3 ?s4 ?z ?U ?_
  case s1 => k_is
  case s2 => k_is
  case s3 => k_is
  case s4 => k_is
  case z => exact Nat.le_of_ble_eq_true rfl
  case U => exact fun o' => .tail .head
  intro o1 f1
  repeat isplit
  refine' set_field okb (M' := fun o' => (x, instObj 70 dx) :: (dx, o') :: M) (.ofM (.head _)) f1 ?s1 ?s2 ?s3 ?s4 ?z ?U ?_
  case s1 => k_is
  case s2 => k_is
  case s3 => k_is
  case s4 => k_is
  case z => exact Nat.le_of_ble_eq_true rfl
  case U => exact fun o' => .tail .head
  intro o2 f2
  repeat isplit
  exact ⟨rfl, q x dx o2 _ f2⟩

/-- what an expression has made stands from now on -/
inductive Fz : Led → Led → Led → Led → Prop
  | refl {N J : Led} : Fz N J N J
  | step {p : Addr × Obj} {N J N' J' : Led} : Fz N (p :: J) N' J' → Fz (p :: N) J N' J'
theorem Fz.sit {M I M' I' : Led} (f : Fz M I M' I') : ∀ {mf H s}, Sit a mf H M I s → Sit a mf H M' I' s ∧ I ⊆ I' := by
  induction f with
  | refl => exact fun S => ⟨S, fun _ h => h⟩
  | step _ ih => exact fun S => ⟨(ih S.freeze).1, (List.subset_cons_self _ _).trans (ih S.freeze).2⟩
theorem Ex.fz {t : Sem Value} (h : Ex a t m M I (fun v M' I' => ∃ M'' I'', Fz M' I' M'' I'' ∧ Q v M'' I'') X) : Ex a t m M I Q X := by
  intro mf H s hm S
  refine wpAny_mono (h mf H s hm S) ?_ fun _ _ h => h
  rintro v s' ⟨M', I', S', hI, hs, M2, I2, f, q⟩
  exact ⟨M2, I2, (f.sit S').1, hI.trans (f.sit S').2, hs, q⟩
theorem i_vector3 (ok : a.Ok 3) {k : Str} {t iv at_} (q : ∀ v I', I ⊆ I' → VecI I' v k iv at_ → Q v M I') : Ex a (call (.ref 99) [.str k t, iv, at_]) m M I Q X :=
  .fz (c_vector3 ok fun x dx o f => ⟨_, _, .step (.step .refl), q _ _ (fun _ h => .tail _ (.tail _ h)) ⟨x, dx, o, t, _, _, rfl, .tail _ (.head _), .head _, f⟩⟩)
theorem i_vector2 (ok : a.Ok 3) {k : Str} {t iv} (q : ∀ v I', I ⊆ I' → VecI I' v k iv .none → Q v M I') : Ex a (call (.ref 99) [.str k t, iv]) m M I Q X :=
  .fz (c_vector2 ok fun x dx o f => ⟨_, _, .step (.step .refl), q _ _ (fun _ h => .tail _ (.tail _ h)) ⟨x, dx, o, t, _, _, rfl, .tail _ (.head _), .head _, f⟩⟩)
theorem i_null (ok : a.Ok 3) (q : ∀ v I', I ⊆ I' → NulI I' v → Q v M I') : Ex a (call (.ref 70) []) m M I Q X :=
  .fz (c_null ok fun x dx o t f => ⟨_, _, .step (.step .refl), q _ _ (fun _ h => .tail _ (.tail _ h)) ⟨x, dx, o, t, rfl, .tail _ (.head _), .head _, f⟩⟩)
theorem i_copy {v vs} {I₀ : Led} (h : LiI I₀ v vs) (hz : vs.length ≤ 1000) (q : ∀ u I', I ⊆ I' → LiI I' u vs → Q u M I') (s₀ : I₀ ⊆ I := by kqd_sub) : Ex a (call (.type "list") [v]) m M I Q X := by
  obtain ⟨l, c, rfl, hl⟩ := h.mono s₀
  exact .fz (copy_li (.ofI hl) (Nat.le_trans hz (by decide)) fun D c' => ⟨_, _, .step .refl, q _ _ (List.subset_cons_self _ _) ⟨D, c', rfl, .head _⟩⟩)
end
end
section
inductive Kd | l | i | d
  deriving DecidableEq
noncomputable def Kd.s : Kd → Str | .l => "logical" | .i => "integer" | .d => "double"
structure Mt where
  kind : Kd
  n : Nat
  cols : List (List Dat)
  rn : Option (List Str)
  cn : Option (List Str)
noncomputable def TxI (I : Led) (v : Value) (ns : List Str) : Prop := ∃ vs, LiI I v vs ∧ StrsAre vs ns
noncomputable def AxI (I : Led) (v : Value) : Option (List Str) → Prop
  | none => NulI I v
  | some ns => ∃ iv, VecI I v "character" iv .none ∧ TxI I iv ns
noncomputable def NmI (I : Led) (v : Value) : Option (List Str) → Prop
  | none => v = .none
  | some ns => TxI I v ns
noncomputable def DnI (w : World) (I : Led) (av dv : Value) (rn cn : Option (List Str)) : Prop := (rn = none ∧ cn = none ∧ DicI w I av [("dim", dv)]) ∨ ∃ nv nl n0 n1, DicI w I av [("dim", dv), ("dimnames", nv)] ∧ VecI I nv "list" nl .none ∧ LiI I nl [n0, n1] ∧ AxI I n0 rn ∧ AxI I n1 cn
inductive DimI (I : Led) (dv ds : Value) (r c : Nat) : Prop
  | mk (t1 t2 : Tok) (h1 : VecI I dv "integer" ds .none) (h2 : LiI I ds [.int (r : Int) t1, .int (c : Int) t2])
inductive MatI (w : World) (I : Led) (v : Value) (A : Mt) : Prop
  | mk (iv : Value) (vs : List Value) (av dv ds : Value) (h1 : VecI I v A.kind.s iv av) (h2 : LiI I iv vs) (h3 : DatAll I vs A.cols.flatten) (h4 : DimI I dv ds A.n A.cols.length) (h5 : DnI w I av dv A.rn A.cn)
inductive PlnI (w : World) (I : Led) (v : Value) (ds : List Dat) (nm : Option (List Str)) : Prop
  | mk (iv : Value) (vs : List Value) (av : Value) (h1 : VecI I v "integer" iv av) (h2 : LiI I iv vs) (h3 : DatAll I vs ds) (h4 : (nm = none ∧ av = .none) ∨ ∃ ns nv nl, nm = some ns ∧ DicI w I av [("names", nv)] ∧ VecI I nv "character" nl .none ∧ TxI I nl ns)

section
variable {w : World} {I I' : Led} {v : Value}
theorem TxI.mono {ns} (h : TxI I v ns) (s : I ⊆ I') : TxI I' v ns := by obtain ⟨vs, h, k⟩ := h; exact ⟨vs, h.mono s, k⟩
theorem AxI.mono {o} (h : AxI I v o) (s : I ⊆ I') : AxI I' v o := by
  cases o with
  | none => exact NulI.mono h s
  | some ns => obtain ⟨iv, h1, h2⟩ := h; exact ⟨iv, h1.mono s, h2.mono s⟩
theorem NmI.mono {o} (h : NmI I v o) (s : I ⊆ I') : NmI I' v o := by
  cases o with
  | none => exact h
  | some ns => exact TxI.mono h s
theorem DnI.mono {dv rn cn} (h : DnI w I v dv rn cn) (s : I ⊆ I') : DnI w I' v dv rn cn := by
  rcases h with ⟨h1, h2, h3⟩ | ⟨nv, nl, n0, n1, h1, h2, h3, h4, h5⟩
  · exact .inl ⟨h1, h2, h3.mono s⟩
  · exact .inr ⟨nv, nl, n0, n1, h1.mono s, h2.mono s, h3.mono s, h4.mono s, h5.mono s⟩
theorem DimI.mono {ds r c} (h : DimI I v ds r c) (s : I ⊆ I') : DimI I' v ds r c := by obtain ⟨t1, t2, h1, h2⟩ := h; exact ⟨t1, t2, h1.mono s, h2.mono s⟩
theorem MatI.mono {A} (h : MatI w I v A) (s : I ⊆ I') : MatI w I' v A := by
  obtain ⟨iv, vs, av, dv, ds, h1, h2, h3, h4, h5⟩ := h
  exact ⟨iv, vs, av, dv, ds, h1.mono s, h2.mono s, h3.mono s, h4.mono s, h5.mono s⟩
theorem PlnI.mono {ds nm} (h : PlnI w I v ds nm) (s : I ⊆ I') : PlnI w I' v ds nm := by
  obtain ⟨iv, vs, av, h1, h2, h3, h4⟩ := h
  refine ⟨iv, vs, av, h1.mono s, h2.mono s, h3.mono s, ?_⟩
  rcases h4 with h4 | ⟨ns, nv, nl, e, k1, k2, k3⟩
  · exact .inl h4
  · exact .inr ⟨ns, nv, nl, e, k1.mono s, k2.mono s, k3.mono s⟩
theorem TxI.ne {ns} (h : TxI I v ns) : (v == Value.none) = false := by obtain ⟨vs, h, k⟩ := h; exact h.ne
theorem TxI.handed {ns} (h : TxI I v ns) : handedIn v = true := by obtain ⟨vs, h, k⟩ := h; exact h.handed
theorem NulI.handed (h : NulI I v) : handedIn v = true := by obtain ⟨x, dx, o, t, rfl, _⟩ := h; rfl
theorem NulI.ne (h : NulI I v) : (v == Value.none) = false := by obtain ⟨x, dx, o, t, rfl, _⟩ := h; rfl
theorem DnI.dim {dv rn cn} (h : DnI w I v dv rn cn) : ∃ kvs, DicI w I v kvs ∧ valueAt kvs "dim" = some dv := by
  rcases h with ⟨h1, h2, h3⟩ | ⟨nv, nl, n0, n1, h1, h2, h3, h4, h5⟩
  · exact ⟨_, h3, rfl⟩
  · exact ⟨_, h1, rfl⟩
end

section
variable {X : Post Value} {a : Act} {m : Map} {M I : Led} {n : Nat} {Q : Post Value} {w : World}
theorem g_vnull_attrs (ok : a.Ok n) {v} {I₀ : Led} (h : NulI I₀ v) (q : Q .none M I) (s₀ : I₀ ⊆ I := by kqd_sub) : Ex a (getAttr v "attrs" true) m M I Q X := by
  replace h := h.mono s₀
  obtain ⟨x, dx, o, t, rfl, h1, h2, f⟩ := h
  refine' get_field ok (.ofI h1) (.ofI h2) f ?k1 ?k2 ?k3 ?k4 ?k5 ?k6 q
  case k1 => k_is
  case k2 => k_is
  case k3 => k_is
  case k4 => k_is
  case k5 => rfl
  case k6 => rfl

theorem c_integer (ok : a.Ok 4) {v vs} {I₀ : Led} (h : LiI I₀ v vs) (hz : vs.length ≤ 1000) (q : ∀ r iv I', I ⊆ I' → VecI I' r "integer" iv .none → LiI I' iv vs → Q r M I') (s₀ : I₀ ⊆ I := by kqd_sub) : Ex a (call (.ref 110) [v]) m M I Q X := by
  refine' Ex_call (binds := [("items", v)]) ok ?ho ?hcd ?hb ?hk ?hnd ?hco ?hgen ?hkk ?_
  ktr_room
  intro b okb hwb fm
  kst_mem
  refine i_copy h hz fun u I1 s1 hu => ?_
  kst_mem
  refine i_vector2 okb fun r I2 s2 hr => ?_
  exact q _ _ _ (by kqd_sub) hr (hu.mono s2)
theorem c_character (ok : a.Ok 4) {v ns} {I₀ : Led} (h : TxI I₀ v ns) (hz : ns.length ≤ 1000) (q : ∀ r iv I', I ⊆ I' → VecI I' r "character" iv .none → TxI I' iv ns → Q r M I') (s₀ : I₀ ⊆ I := by kqd_sub) : Ex a (call (.ref 117) [v]) m M I Q X := by
  obtain ⟨vs, h, hs⟩ := h
  refine' Ex_call (binds := [("items", v)]) ok ?ho ?hcd ?hb ?hk ?hnd ?hco ?hgen ?hkk ?_
  ktr_room
  intro b okb hwb fm
  kst_mem
  refine i_copy h (by rw [hs.length]; exact hz) fun u I1 s1 hu => ?_
  kst_mem
  refine i_vector2 okb fun r I2 s2 hr => ?_
  exact q _ _ _ (by kqd_sub) hr ⟨vs, hu.mono s2, hs⟩
/-- v.attrs['dim'].items, or what is lacking -/
theorem c_dims (ok : a.Ok 1) (hw : a.w = w) {v k iv av dv ds kvs r c} {I₀ : Led} (hv : VecI I₀ v k iv av) (hd' : DicI w I₀ av kvs) (hx : valueAt kvs "dim" = some dv) (h3 : DimI I₀ dv ds r c) (q : Q ds M I) (s₀ : I₀ ⊆ I := by kqd_sub) : Ex a (call (.ref 475) [v]) m M I Q X := by
  obtain ⟨t1, t2, h3, h4⟩ := h3
  refine' Ex_call (binds := [("v", v)]) ok ?ho ?hcd ?hb ?hk ?hnd ?hco ?hgen ?hkk ?_
  ktr_room
  intro b okb hwb fm
  kst_mem
  refine g_attrs okb hv hd'.handed ?_
  kst_mem
  rw [hd'.ne]
  kst_mem
  refine g_attrs okb hv hd'.handed ?_
  kst_mem
  refine d_notin (hwb.trans hw) hd' ?_
  kst_mem
  rw [hx]
  kst_mem
  refine g_attrs okb hv hd'.handed ?_
  kst_mem
  refine d_item (hwb.trans hw) hd' hx ?_
  kst_mem
  exact g_items okb h3 h4.handed q
theorem c_dims_no (ok : a.Ok 1) (hw : a.w = w) {v ds nm} {I₀ : Led} (hv : PlnI w I₀ v ds nm) (q : Q .none M I) (s₀ : I₀ ⊆ I := by kqd_sub) : Ex a (call (.ref 475) [v]) m M I Q X := by
  obtain ⟨iv, vs, av, h1, h2, h3, h4⟩ := hv
  refine' Ex_call (binds := [("v", v)]) ok ?ho ?hcd ?hb ?hk ?hnd ?hco ?hgen ?hkk ?_
  ktr_room
  intro b okb hwb fm
  kst_mem
  rcases h4 with ⟨-, rfl⟩ | ⟨ns, nv, nl, e, k1, k2, k3⟩
  · refine g_attrs okb h1 rfl ?_
    kst_mem
    exact q
  · refine g_attrs okb h1 k1.handed ?_
    kst_mem
    rw [k1.ne]
    kst_mem
    refine g_attrs okb h1 k1.handed ?_
    kst_mem
    refine d_notin (hwb.trans hw) k1 ?_
    kst_mem
    exact q
theorem c_is_matrix (ok : a.Ok 2) (hw : a.w = w) {v A} {I₀ : Led} (hv : MatI w I₀ v A) (q : Q (.bool true) M I) (s₀ : I₀ ⊆ I := by kqd_sub) : Ex a (call (.ref 482) [v]) m M I Q X := by
  obtain ⟨iv, vs, av, dv, ds, h1, h2, h3, h4, h5⟩ := hv
  obtain ⟨kvs, hk, hx⟩ := h5.dim
  refine' Ex_call (binds := [("v", v)]) ok ?ho ?hcd ?hb ?hk ?hnd ?hco ?hgen ?hkk ?_
  ktr_room
  intro b okb hwb fm
  kst_mem
  refine c_dims okb (hwb.trans hw) h1 hk hx h4 ?_
  obtain ⟨t1, t2, h4, h6⟩ := h4
  kst_mem
  rw [h6.ne]
  kst_mem
  refine l_len h6 (by simp) fun _ => ?_
  kst_mem
  exact q
theorem c_is_matrix_no (ok : a.Ok 2) (hw : a.w = w) {v ds nm} {I₀ : Led} (hv : PlnI w I₀ v ds nm) (q : Q (.bool false) M I) (s₀ : I₀ ⊆ I := by kqd_sub) : Ex a (call (.ref 482) [v]) m M I Q X := by
  refine' Ex_call (binds := [("v", v)]) ok ?ho ?hcd ?hb ?hk ?hnd ?hco ?hgen ?hkk ?_
  ktr_room
  intro b okb hwb fm
  kst_mem
  refine c_dims_no okb (hwb.trans hw) hv ?_
  kst_mem
  exact q
theorem c_shape (ok : a.Ok 3) (hw : a.w = w) {v A} {I₀ : Led} (hv : MatI w I₀ v A) (q : ∀ l t1 t2 I', I ⊆ I' → (l, Tu [.int (A.n : Int) t1, .int (A.cols.length : Int) t2] 0) ∈ I' → Q (.ref l) M I') (s₀ : I₀ ⊆ I := by kqd_sub) : Ex a (call (.ref 489) [v]) m M I Q X := by
  have hv0 := hv
  obtain ⟨iv, vs, av, dv, ds, h1, h2, h3, h4, h5⟩ := hv
  obtain ⟨kvs, hk, hx⟩ := h5.dim
  have h4' := h4
  obtain ⟨t1, t2, h7, h6⟩ := h4'
  refine' Ex_call (binds := [("v", v)]) ok ?ho ?hcd ?hb ?hk ?hnd ?hco ?hgen ?hkk ?_
  ktr_room
  intro b okb hwb fm
  kst_mem
  refine T_plain ?_
  kst_mem
  refine c_is_matrix okb (hwb.trans hw) hv0 ?_
  kst_mem
  refine c_dims (okb.le (by decide)) (hwb.trans hw) h1 hk hx h4 ?_
  kst_mem
  refine l_item h6 (by decide) (by decide) rfl ?_
  kst_mem
  refine c_dims (okb.le (by decide)) (hwb.trans hw) h1 hk hx h4 ?_
  kst_mem
  refine l_item h6 (by decide) (by decide) rfl ?_
  kst_mem
  exact ⟨Nat.le_of_ble_eq_true rfl, fun r => q _ _ _ _ (by kqd_sub) (.head _)⟩

/-- the names along an axis -/
theorem c_axis_names (ok : a.Ok 1) (hw : a.w = w) {v A t} {k : Nat} (hk : k < 2) {I₀ : Led} (hv : MatI w I₀ v A) (q : ∀ u, NmI I₀ u (if k = 0 then A.rn else A.cn) → Q u M I) (s₀ : I₀ ⊆ I := by kqd_sub) : Ex a (call (.ref 496) [v, .int (k : Int) t]) m M I Q X := by
  obtain ⟨iv, vs, av, dv, ds, h1, h2, h3, h4, h5⟩ := hv
  refine' Ex_call (binds := [("v", v), ("axis", .int (k : Int) t)]) ok ?ho ?hcd ?hb ?hk ?hnd ?hco ?hgen ?hkk ?_
  ktr_room
  intro b okb hwb fm
  kst_mem
  rcases h5 with ⟨e1, e2, h5⟩ | ⟨nv, nl, n0, n1, h5, h6, h7, h8, h9⟩
  · refine g_attrs okb h1 h5.handed ?_
    kst_mem
    rw [h5.ne]
    kst_mem
    refine g_attrs okb h1 h5.handed ?_
    kst_mem
    refine d_notin (hwb.trans hw) h5 ?_
    kst_mem
    exact q _ (by rw [e1, e2]; split <;> rfl)
  · refine g_attrs okb h1 h5.handed ?_
    kst_mem
    rw [h5.ne]
    kst_mem
    refine g_attrs okb h1 h5.handed ?_
    kst_mem
    refine d_notin (hwb.trans hw) h5 ?_
    kst_mem
    refine g_attrs okb h1 h5.handed ?_
    kst_mem
    refine d_item (hwb.trans hw) h5 rfl ?_
    kst_mem
    refine g_items okb h6 h7.handed ?_
    kst_mem
    obtain ⟨u, o, hu, hax, eo⟩ : ∃ u o, [n0, n1][(k : Int).toNat]? = some u ∧ AxI I₀ u o ∧ (if k = 0 then A.rn else A.cn) = o := by
      match k, hk with
      | 0, _ => exact ⟨n0, _, rfl, h8, rfl⟩
      | 1, _ => exact ⟨n1, _, rfl, h9, rfl⟩
    rw [eo] at q
    refine l_item h7 (by omega) (by omega) hu ?_
    kst_mem
    cases o with
    | none =>
      refine g_nkind okb hax fun _ => ?_
      kst_mem
      exact q _ rfl
    | some ns =>
      obtain ⟨iv, k1, k2⟩ := hax
      refine g_kind okb k1 fun _ => ?_
      kst_mem
      refine g_items okb k1 k2.handed ?_
      exact q _ k2
theorem c_plain_names (ok : a.Ok 1) (hw : a.w = w) {v ds nm} {I₀ : Led} (hv : PlnI w I₀ v ds nm) (q : ∀ u, NmI I₀ u nm → Q u M I) (s₀ : I₀ ⊆ I := by kqd_sub) : Ex a (call (.ref 503) [v]) m M I Q X := by
  obtain ⟨iv, vs, av, h1, h2, h3, h4⟩ := hv
  refine' Ex_call (binds := [("v", v)]) ok ?ho ?hcd ?hb ?hk ?hnd ?hco ?hgen ?hkk ?_
  ktr_room
  intro b okb hwb fm
  kst_mem
  rcases h4 with ⟨rfl, rfl⟩ | ⟨ns, nv, nl, rfl, k1, k2, k3⟩
  · refine g_attrs okb h1 rfl ?_
    kst_mem
    exact q _ rfl
  · refine g_attrs okb h1 k1.handed ?_
    kst_mem
    rw [k1.ne]
    kst_mem
    refine g_attrs okb h1 k1.handed ?_
    kst_mem
    refine d_notin (hwb.trans hw) k1 ?_
    kst_mem
    refine g_attrs okb h1 k1.handed ?_
    kst_mem
    refine d_item (hwb.trans hw) k1 rfl ?_
    kst_mem
    refine g_items okb k2 k3.handed ?_
    exact q _ k3
end
end
section
section
variable {X : Post Value} {a : Act} {m : Map} {M I : Led} {n : Nat} {Q : Post Value} {w : World}
inductive kPv (l : Addr) (Q : Post Value) (u : Value) (M2 I2 : Led) : Prop
  | mk (vs : List Value) (c : Nat) (M3 : Led) (U : UpdM l (Li vs c) (Li (vs ++ [u]) (c + 1)) M2 M3) (hz : vs.length ≤ sizeLine) (q : Q .none M3 I2)
abbrev kPu (I : Led) (l : Addr) (Q : Post Value) : Post Value := fun u M2 I2 => I ⊆ I2 → kPv l Q u M2 I2
inductive kAp (a : Act) (e : Expr) (m : Map) (I : Led) (Q : Post Value) (X : Post Value) (v : Value) (M' I' : Led) : Prop
  | mk (l : Addr) (vs : List Value) (c : Nat) (ev : v = .ref l) (hl : At M' I' l (Li vs c)) (k : I ⊆ I' → Ex a (eval e a.env) m M' I' (kPu I l Q) X)
inductive kPy (l : Addr) (Q : Post Value) (u : Value) (M2 I2 : Led) : Prop
  | mk (b : Addr) (us : List Value) (c' : Nat) (vs : List Value) (c : Nat) (M3 : Led) (e : u = .ref b) (hb : At M2 I2 b (Li us c')) (hne : us ≠ []) (U : UpdM l (Li vs c) (Li (vs ++ us) (c + 1)) M2 M3) (hz : vs.length + us.length ≤ sizeLine) (q : Q .none M3 I2)
abbrev kPx (I : Led) (l : Addr) (Q : Post Value) : Post Value := fun u M2 I2 => I ⊆ I2 → kPy l Q u M2 I2
inductive kXt (a : Act) (e : Expr) (m : Map) (I : Led) (Q : Post Value) (X : Post Value) (v : Value) (M' I' : Led) : Prop
  | mk (l : Addr) (vs : List Value) (c : Nat) (ev : v = .ref l) (hl : At M' I' l (Li vs c)) (k : I ⊆ I' → Ex a (eval e a.env) m M' I' (kPx I l Q) X)
theorem E_append {o e pos apos} (pl : Sem Bool) (h : Ex a (eval o a.env) m M I (kAp a e m I Q X) X)
    (hn : notStar e = true := by rfl) (hs : eval (.Call (.Attribute o "append" apos) [e] [] pos) a.env = (do
          let ov ← eval o a.env
          standAt (Pos.atName apos)
          let (f, first) ← holding [ov] (getMethod ov "append" pl)
          callWith pos f first (backTo pos (starEach [e] a.env)) []) := by rfl) : Ex a (eval (.Call (.Attribute o "append" apos) [e] [] pos) a.env) m M I Q X := by
  refine E_method (id := "list.append") (pl := pl) (hs := hs) (hn := hn) (h.mono (fun v M' I' _ k => ?_) fun _ _ _ _ h => h)
  obtain ⟨l, vs, c, rfl, hl, k⟩ := k
  refine ⟨[.ref l], fun P hP pl => method_li hl ?_ rfl hP, fun hI => Es.cons ((k hI).mono (fun u M2 I2 _ k hI2 => Es.nil fun _ => ?_) fun _ _ _ _ h => h) hn⟩
  · exact PySem.F.slot_list_append
  · obtain ⟨vs, c, M3, U, hz, q⟩ := k (hI.trans hI2)
    exact append_li U hz q
theorem E_extend {o e pos apos} (pl : Sem Bool) (h : Ex a (eval o a.env) m M I (kXt a e m I Q X) X)
    (hn : notStar e = true := by rfl) (hs : eval (.Call (.Attribute o "extend" apos) [e] [] pos) a.env = (do
          let ov ← eval o a.env
          standAt (Pos.atName apos)
          let (f, first) ← holding [ov] (getMethod ov "extend" pl)
          callWith pos f first (backTo pos (starEach [e] a.env)) []) := by rfl) : Ex a (eval (.Call (.Attribute o "extend" apos) [e] [] pos) a.env) m M I Q X := by
  refine E_method (id := "list.extend") (pl := pl) (hs := hs) (hn := hn) (h.mono (fun v M' I' _ k => ?_) fun _ _ _ _ h => h)
  obtain ⟨l, vs, c, rfl, hl, k⟩ := k
  refine ⟨[.ref l], fun P hP pl => method_li hl ?_ rfl hP, fun hI => Es.cons ((k hI).mono (fun u M2 I2 _ k hI2 => Es.nil fun _ => ?_) fun _ _ _ _ h => h) hn⟩
  · exact PySem.F.slot_list_extend
  · obtain ⟨b, us, c', vs, c, M3, rfl, hb, hne, U, hz, q⟩ := k (hI.trans hI2)
    exact extend_li hb hne U hz q

noncomputable def dnOf (rn cn : Option (List Str)) : Bool := rn.isSome || cn.isSome
theorem c_dimnames_no (ok : a.Ok 5) {v} {I₀ : Led} (hv : LiI I₀ v [.none, .none]) (q : ∀ I', I ⊆ I' → Q .none M I') (s₀ : I₀ ⊆ I := by kqd_sub) : Ex a (call (.ref 508) [v]) m M I Q X := by
  refine' Ex_call (binds := [("rows", v)]) ok ?ho ?hcd ?hb ?hk ?hnd ?hco ?hgen ?hkk ?_
  ktr_room
  intro b okb hwb fm
  kst_mem
  refine' E_comp_if okb (fun v => !(v == .none)) ?c1 ?c2 ?c3 ?c4 ?c5 ?c6 ?c7 ?_
  case c1 => rfl
  case c2 => rfl
  case c3 => rfl
  case c4 => decide +kernel
  case c5 => rfl
  case c6 => rfl
  case c7 => exact fun _ => rfl
  kst_mem
  obtain ⟨l, c, rfl, hl⟩ := hv.mono s₀
  refine ⟨l, _, _, rfl, .ofI hl, Nat.le_of_ble_eq_true rfl, ?_, fun D o ho => ?_⟩
  · intro v _
    exact test_notnone rfl rfl rfl v
  kst_mem
  refine len_any (.ofI (.head _)) ho (by decide +kernel) fun _ => ?_
  kst_mem
  exact q _ (by kqd_sub)
theorem c_dimnames (ok : a.Ok 5) {v u0 u1 rn cn} {I₀ : Led} (hv : LiI I₀ v [u0, u1]) (h0 : NmI I₀ u0 rn) (h1 : NmI I₀ u1 cn) (hs : dnOf rn cn = true) (hz0 : ∀ ns, rn = some ns → ns.length ≤ 1000) (hz1 : ∀ ns, cn = some ns → ns.length ≤ 1000)
    (q : ∀ r nl n0 n1 I', I ⊆ I' → VecI I' r "list" nl .none → LiI I' nl [n0, n1] → AxI I' n0 rn → AxI I' n1 cn → Q r M I') (s₀ : I₀ ⊆ I := by kqd_sub) : Ex a (call (.ref 508) [v]) m M I Q X := by
  refine' Ex_call (binds := [("rows", v)]) ok ?ho ?hcd ?hb ?hk ?hnd ?hco ?hgen ?hkk ?_
  ktr_room
  intro b okb hwb fm
  kst_mem
  refine' E_comp_if okb (fun v => !(v == .none)) ?c1 ?c2 ?c3 ?c4 ?c5 ?c6 ?c7 ?_
  case c1 => rfl
  case c2 => rfl
  case c3 => rfl
  case c4 => decide +kernel
  case c5 => rfl
  case c6 => rfl
  case c7 => exact fun _ => rfl
  kst_mem
  obtain ⟨l, c, rfl, hl⟩ := hv.mono s₀
  refine ⟨l, _, _, rfl, .ofI hl, Nat.le_of_ble_eq_true rfl, ?_, fun D o ho => ?_⟩
  · intro v _
    exact test_notnone rfl rfl rfl v
  kst_mem
  have hlen : ([u0, u1].filter fun v => !(v == .none)).length = 1 ∨ ([u0, u1].filter fun v => !(v == .none)).length = 2 := by
    cases rn with
    | none =>
      cases cn with
      | none => cases hs
      | some ns => rw [show u0 = .none from h0]; left; simp [TxI.ne h1]
    | some ms =>
      cases cn with
      | none => rw [show u1 = .none from h1]; left; simp [TxI.ne h0]
      | some ns => right; simp [TxI.ne h0, TxI.ne h1]
  refine len_any (.ofI (.head _)) ho (by omega) fun _ => ?_
  kst_mem
  rw [show ((([u0, u1].filter fun v => !(v == .none)).length : Int) == 0) = false by rcases hlen with h | h <;> rw [h] <;> rfl]
  kst_mem
  refine ⟨Nat.le_of_ble_eq_true rfl, fun D2 => ?_⟩
  kst_mem
  refine' X_for_list okb fm ?f1 ?f2 ?_
  case f1 => k_places
  case f2 => exact fun _ => rfl
  kst_mem
  let J_1 : Nat → Map → Led → Led → Prop := fun i m' M' I' => m' "items" = some (.ref D2) ∧ ∃ ys c, M' = (D2, Li ys c) :: M ∧ ys.length = i ∧ (∀ y, ys[0]? = some y → AxI I' y rn) ∧ (∀ y, ys[1]? = some y → AxI I' y cn)
  refine ⟨l, _, c, rfl, .tail _ hl, J_1, ⟨upd_at, [], 0, rfl, rfl, fun y e => by simp at e, fun y e => by simp at e⟩, ?_, ?_⟩
  · rintro i v m₁ M₁ I₁ hv' hI₁ ⟨hm, ys, c', rfl, hy, a0, a1⟩
    kst_mem
    refine E_append _ ?_
    kst_mem
    refine ⟨D2, ys, c', rfl, .ofM (.head _), ?_⟩
    kst_mem
    obtain ⟨oo, hn, hoz, fin⟩ : ∃ oo, NmI I₁ v oo ∧ (∀ ns, oo = some ns → ns.length ≤ 1000) ∧ ∀ u I2, I₁ ⊆ I2 → AxI I2 u oo → (∀ y, (ys ++ [u])[0]? = some y → AxI I2 y rn) ∧ (∀ y, (ys ++ [u])[1]? = some y → AxI I2 y cn) := by
      match i, ys, hy with
      | 0, [], _ => cases hv'; exact ⟨rn, h0.mono (by kqd_sub), hz0, fun u I2 s2 h => ⟨fun y e => by cases e; exact h, fun y e => nomatch e⟩⟩
      | 1, [y0], _ => cases hv'; exact ⟨cn, h1.mono (by kqd_sub), hz1, fun u I2 s2 h => ⟨fun y e => by cases e; exact (a0 _ rfl).mono s2, fun y e => by cases e; exact h⟩⟩
      | (_ + 2), _, _ => cases hv'
    have hlen2 : i < 2 := (List.getElem?_eq_some_iff.mp hv').1
    cases oo with
    | none =>
      rw [show v = .none from hn]
      kst_mem
      refine i_null (okb.le (by decide)) fun u I2 s2 hu => ?_
      kst_mem
      refine ⟨_, _, _, .head, Nat.le_trans (by omega : ys.length ≤ 1000) (by decide), ?_⟩
      kst_mem
      exact ⟨(upd_ne (by decide)).trans hm, _, _, rfl, by simp [hy], fin u I2 s2 hu⟩
    | some ns =>
      rw [TxI.ne hn]
      kst_mem
      refine c_character (okb.le (by decide)) hn (hoz _ rfl) fun u iv I2 s2 hu1 hu2 => ?_
      kst_mem
      refine ⟨_, _, _, .head, Nat.le_trans (by omega : ys.length ≤ 1000) (by decide), ?_⟩
      kst_mem
      exact ⟨(upd_ne (by decide)).trans hm, _, _, rfl, by simp [hy], fin u I2 s2 ⟨iv, hu1, hu2⟩⟩
  · rintro m₁ M₁ I₁ hI₁ ⟨hm, ys, c', rfl, hy, a0, a1⟩
    kst_mem
    obtain ⟨n0, n1, rfl⟩ : ∃ n0 n1, ys = [n0, n1] := by
      match ys, hy with
      | [n0, n1], _ => exact ⟨n0, n1, rfl⟩
    kst_p
    kst_mem
    refine i_vector2 (okb.le (by decide)) fun r I2 s2 hr => ?_
    exact q _ _ _ _ _ (by kqd_sub) hr ⟨_, _, rfl, s2 (.head _)⟩ ((a0 _ rfl).mono (by kqd_sub)) ((a1 _ rfl).mono (by kqd_sub))
end
end
section
section
variable {X : Post Value} {a : Act} {m : Map} {M I : Led} {n : Nat} {Q : Post Value} {w : World}
theorem sb {I I' : Led} (s : I ⊆ I') : ∀ p, p ∈ I → p ∈ I' := fun _ h => s h
noncomputable def Zn (o : Option (List Str)) : Prop := ∀ ns, o = some ns → ns.length ≤ 1000
theorem c_new_array (ok : a.Ok 6) (hw : a.w = w) {kt iv vs ev t1 t2 nv u0 u1} {A : Mt} {I₀ : Led} (hi : LiI I₀ iv vs) (hd' : DatAll I₀ vs A.cols.flatten) (he : LiI I₀ ev [.int (A.n : Int) t1, .int (A.cols.length : Int) t2]) (hn : LiI I₀ nv [u0, u1]) (h0 : NmI I₀ u0 A.rn) (h1 : NmI I₀ u1 A.cn) (z0 : Zn A.rn) (z1 : Zn A.cn)
    (q : ∀ r I', I ⊆ I' → MatI w I' r A → Q r M I') (s₀ : I₀ ⊆ I := by kqd_sub) : Ex a (call (.ref 515) [.str A.kind.s kt, iv, ev, nv]) m M I Q X := by
  refine .fz ?_
  refine' Ex_call (binds := [("kind", .str A.kind.s kt), ("items", iv), ("extents", ev), ("names", nv)]) ok ?ho ?hcd ?hb ?hk ?hnd ?hco ?hgen ?hkk ?_
  ktr_room
  intro b okb hwb fm
  kst_mem
  refine c_vector2 (okb.le (by decide)) fun x dx o f => ?_
  kst_mem
  refine c_integer (okb.le (by decide)) he (Nat.le_of_ble_eq_true rfl) fun r1 iv1 I1 s1 k1 k2 => ?_
  kst_mem
  refine ⟨rfl, by simp [strPairs], fun d od hod lo => ?_⟩
  kst_mem
  refine' set_field okb (M' := fun o' => (d, od) :: (x, instObj 99 dx) :: (dx, o') :: M) (.ofM (.tail _ (.head _))) f ?s1 ?s2 ?s3 ?s4 ?z ?U ?_
  case s1 => k_is
  case s2 => k_is
  case s3 => k_is
  case s4 => k_is
  case z => exact Nat.le_of_ble_eq_true rfl
  case U => exact fun o' => .tail (.tail .head)
  intro o1 f1
  kst_mem
  by_cases hs : dnOf A.rn A.cn = true
  · refine c_dimnames (okb.le (by decide)) hn h0 h1 hs z0 z1 fun r nl n0 n1 I2 s2 j1 j2 j3 j4 => ?_
    kst_mem
    rw [j1.ne]
    kst_mem
    refine' get_field okb (.ofM (.tail _ (.head _))) (.ofM (.tail _ (.tail _ (.head _)))) f1 ?k1 ?k2 ?k3 ?k4 ?k5 ?k6 ?_
    case k1 => k_is
    case k2 => k_is
    case k3 => k_is
    case k4 => k_is
    case k5 => rfl
    case k6 => rfl
    kst_mem
    refine dict_set (M' := fun o' => (d, o') :: (x, instObj 99 dx) :: (dx, o1) :: M) hod (fun o' => .head) (Nat.le_of_ble_eq_true rfl) fun o2 ho2 => ?_
    kst_mem
    refine ⟨_, _, .step (.step (.step .refl)), q _ _ ?_ ⟨iv, vs, .ref d, r1, iv1, ⟨x, dx, o1, kt, _, _, rfl, ?_, ?_, f1⟩, hi.mono ?_, hd'.mono (sb ?_), ⟨t1, t2, k1.mono ?_, k2.mono ?_⟩, .inr ⟨r, nl, n0, n1, ⟨d, o2, rfl, ?_, ?_, lo⟩, j1.mono ?_, j2.mono ?_, j3.mono ?_, j4.mono ?_⟩⟩⟩
    all_goals first | kqd_sub | skip
    · exact .tail _ (.head _)
    · exact .head _
    · exact .tail _ (.tail _ (.head _))
    · rw [hwb, hw] at ho2; exact ho2
  · have e0 : A.rn = none := by
      cases e : A.rn with
      | none => rfl
      | some _ => rw [e] at hs; exact absurd rfl hs
    have e1 : A.cn = none := by
      cases e : A.cn with
      | none => rfl
      | some _ => rw [e0, e] at hs; exact absurd rfl hs
    rw [e0] at h0; rw [e1] at h1
    cases h0; cases h1
    refine c_dimnames_no (okb.le (by decide)) hn fun I2 s2 => ?_
    kst_mem
    refine ⟨_, _, .step (.step (.step .refl)), q _ _ ?_ ⟨iv, vs, .ref d, r1, iv1, ⟨x, dx, o1, kt, _, _, rfl, ?_, ?_, f1⟩, hi.mono ?_, hd'.mono (sb ?_), ⟨t1, t2, k1.mono ?_, k2.mono ?_⟩, .inl ⟨e0, e1, d, od, rfl, ?_, ?_, lo⟩⟩⟩
    all_goals first | kqd_sub | skip
    · exact .tail _ (.head _)
    · exact .head _
    · exact .tail _ (.tail _ (.head _))
    · rw [hwb, hw] at hod; exact hod
theorem c_new_matrix (ok : a.Ok 7) (hw : a.w = w) {kt iv vs ev t1 t2 u0 u1} {A : Mt} {I₀ : Led} (hi : LiI I₀ iv vs) (hd' : DatAll I₀ vs A.cols.flatten) (he : LiI I₀ ev [.int (A.n : Int) t1, .int (A.cols.length : Int) t2]) (h0 : NmI I₀ u0 A.rn) (h1 : NmI I₀ u1 A.cn) (z0 : Zn A.rn) (z1 : Zn A.cn)
    (q : ∀ r I', I ⊆ I' → MatI w I' r A → Q r M I') (s₀ : I₀ ⊆ I := by kqd_sub) : Ex a (call (.ref 522) [.str A.kind.s kt, iv, ev, u0, u1]) m M I Q X := by
  refine' Ex_call (binds := [("kind", .str A.kind.s kt), ("items", iv), ("extents", ev), ("row_names", u0), ("column_names", u1)]) ok ?ho ?hcd ?hb ?hk ?hnd ?hco ?hgen ?hkk ?_
  ktr_room
  intro b okb hwb fm
  kst_mem
  refine ⟨Nat.le_of_ble_eq_true rfl, fun D => ?_⟩
  kst_mem
  kst_p
  refine c_new_array (I₀ := (D, Li [u0, u1] 0) :: I) (okb.le (by decide)) (hwb.trans hw) (hi.mono (by kqd_sub)) (hd'.mono (sb (by kqd_sub))) (he.mono (by kqd_sub)) ⟨D, 0, rfl, .head _⟩ (h0.mono (by kqd_sub)) (h1.mono (by kqd_sub)) z0 z1 fun r I1 s1 hr => ?_
  exact q _ _ (by kqd_sub) hr
/-- one column -/
theorem c_column_items (ok : a.Ok 2) (hw : a.w = w) {v A c t} {p : Nat} {I₀ : Led} (hv : MatI w I₀ v A) (wf : ∀ c ∈ A.cols, c.length = A.n) (hz : A.cols.flatten.length ≤ 1000) (hq : A.cols.length ≤ 1000) (hp : A.cols[p]? = some c)
    (q : ∀ r vs I', I ⊆ I' → LiI I' r vs → DatAll I' vs c → Q r M I') (s₀ : I₀ ⊆ I := by kqd_sub) : Ex a (call (.ref 529) [v, .int (p : Int) t]) m M I Q X := by
  obtain ⟨iv, vs, av, dv, ds, h1, h2, h3, h4, h5⟩ := hv
  obtain ⟨kvs, hk, hx⟩ := h5.dim
  obtain ⟨f1, f2⟩ := flat_col wf hp
  have hl := h3.length
  have n1000 : A.n ≤ 1000 := by omega
  have p1000 : p ≤ A.cols.length := Nat.le_of_lt (List.getElem?_eq_some_iff.mp hp).1
  refine .fz ?_
  refine' Ex_call (binds := [("m", v), ("place", .int (p : Int) t)]) ok ?ho ?hcd ?hb ?hk ?hnd ?hco ?hgen ?hkk ?_
  ktr_room
  intro b okb hwb fm
  kst_mem
  refine c_dims (okb.le (by decide)) (hwb.trans hw) h1 hk hx h4 ?_
  obtain ⟨t1, t2, h6, h7⟩ := h4
  kst_mem
  refine l_item h7 (by decide) (by decide) rfl ?_
  kst_mem

  refine g_items okb h1 h2.handed ?_
  kst_mem
  obtain ⟨l, cc, rfl, hl'⟩ := h2.mono s₀
  refine ⟨l, vs, cc, rfl, .ofI hl', Nat.le_trans (by omega : vs.length ≤ 1000) (by decide), .some ?_⟩
  kst_mem
  refine mul_ii ?m1 fun t3 => .some ?_
  case m1 => exact small_mul (by omega) (by omega) (by omega) (by omega)
  kst_mem
  refine mul_ii ?m2 fun t4 => ?_
  case m2 => exact small_mul (by omega) (by omega) (by omega) (by omega)
  refine ⟨.ofI hl', _, _, .int _ _, .int _ _, fun D => ?_⟩
  have e : (slicePick vs.toArray (some ((p : Int) * (A.n : Int))) (some (((p : Int) + 1) * (A.n : Int))) none).toList = (vs.drop (p * A.n)).take A.n := by
    rw [← slice_pick vs (p * A.n) A.n (by omega)]
    congr 3
    push_cast
    rw [Int.add_mul, Int.one_mul]
  rw [e]
  refine ⟨_, _, .step .refl, q _ _ _ (List.subset_cons_self _ _) ⟨D, 0, rfl, .head _⟩ ?_⟩
  have := DatAll.dropt (h3.mono (sb s₀)) (p * A.n) A.n
  rw [f1] at this
  exact this.mono (sb (List.subset_cons_self _ _))
end
end
section
noncomputable def Mt.t (A : Mt) : Mt := ⟨A.kind, A.cols.length, tr .none A.n A.cols, A.cn, A.rn⟩
structure Mt.Wf (A : Mt) : Prop where
  col : ∀ c ∈ A.cols, c.length = A.n
  n : A.n ≤ 20
  c : A.cols.length ≤ 20
  z0 : Zn A.rn
  z1 : Zn A.cn
theorem Mt.Wf.flat {A : Mt} (h : A.Wf) : A.cols.flatten.length ≤ 400 := by
  rw [flat_len h.col]
  exact Nat.mul_le_mul h.c h.n
theorem Mt.Wf.t {A : Mt} (h : A.Wf) : A.t.Wf := ⟨fun c hc => tr_mem c hc, h.c, by show (tr _ _ _).length ≤ 20; rw [tr_len]; exact h.n, h.z1, h.z0⟩
section
variable {X : Post Value} {a : Act} {m : Map} {M I : Led} {n : Nat} {Q : Post Value} {w : World}
theorem c_transpose (ok : a.Ok 8) (hw : a.w = w) {v A} {I₀ : Led} (hv : MatI w I₀ v A) (wf : A.Wf)
    (q : ∀ r I', I ⊆ I' → MatI w I' r A.t → Q r M I') (s₀ : I₀ ⊆ I := by kqd_sub) : Ex a (call (.ref 536) [v]) m M I Q X := by
  have hv0 := hv
  obtain ⟨iv, vs, av, dv, ds, h1, h2, h3, h4, h5⟩ := hv
  obtain ⟨kvs, hk, hx⟩ := h5.dim
  have hl := h3.length
  have hz := wf.flat
  have hn := wf.n
  have hc := wf.c
  refine' Ex_call (binds := [("v", v)]) ok ?ho ?hcd ?hb ?hk ?hnd ?hco ?hgen ?hkk ?_
  ktr_room
  intro b okb hwb fm
  kst_mem
  refine c_dims (okb.le (by decide)) (hwb.trans hw) h1 hk hx h4 ?_
  obtain ⟨t1, t2, h6, h7⟩ := h4
  kst_mem
  rw [h7.ne]
  kst_mem
  refine l_len h7 (by simp) fun _ => ?_
  kst_mem
  refine l_len h7 (by simp) fun _ => ?_
  kst_mem
  obtain ⟨le, ce, rfl, hle⟩ := h7.mono s₀
  refine ⟨le, _, _, ce, rfl, .ofI hle, ?_⟩
  kst_mem
  refine ⟨Nat.le_of_ble_eq_true rfl, fun D => ?_⟩
  kst_mem
  refine' X_for_range okb fm ?f1 ?f2 ?_
  case f1 => k_places
  case f2 => exact fun _ => rfl
  kst_mem
  refine range_1 fun r u1 u2 u3 => ?_
  let J_1 : Nat → Map → Led → Led → Prop := fun i m' M' I' => (m' "items" = some (.ref D) ∧ m' "v" = some v ∧ m' "rows" = some (.int A.n t1) ∧ m' "columns" = some (.int A.cols.length t2)) ∧ ∃ ys c, M' = (D, Li ys c) :: M ∧ DatAll I' ys (trA .none A.n A.cols i 0)
  refine ⟨r, A.n, _, _, _, rfl, .head _, by omega, J_1, ?_, ?_, ?_⟩
  · exact ⟨⟨by kp_flats, by kp_flats, by kp_flats, by kp_flats⟩, [], 0, rfl, by rw [trA_zero]; exact .nil⟩
  · rintro i t m₁ M₁ I₁ hi hI₁ ⟨⟨e1, e2, e3, e4⟩, ys, c, rfl, hy⟩
    kst_mem
    refine' X_for_range okb fm ?f1 ?f2 ?_
    case f1 => k_places
    case f2 => exact fun _ => rfl
    kst_mem
    refine range_1 fun r u1 u2 u3 => ?_
    let J_2 : Nat → Map → Led → Led → Prop := fun j m' M' I' => (m' "items" = some (.ref D) ∧ m' "v" = some v ∧ m' "rows" = some (.int A.n t1) ∧ m' "columns" = some (.int A.cols.length t2) ∧ m' "place" = some (.int i t)) ∧ ∃ ys c, M' = (D, Li ys c) :: M ∧ DatAll I' ys (trA .none A.n A.cols i j)
    refine ⟨r, A.cols.length, _, _, _, rfl, .head _, by omega, J_2, ?_, ?_, ?_⟩
    · exact ⟨⟨by kp_flats, by kp_flats, by kp_flats, by kp_flats, by kp_flats⟩, ys, c, rfl, hy.mono (sb (by kqd_sub))⟩
    · rintro j t' m₂ M₂ I₂ hj hI₂ ⟨⟨f1, f2, f3, f4, f5⟩, ys, c, rfl, hy⟩
      kst_mem
      refine E_append _ ?_
      kst_mem
      refine ⟨D, ys, c, rfl, .ofM (.head _), ?_⟩
      kst_mem
      refine g_items okb h1 h2.handed ?_
      kst_mem
      refine mul_ii (small_mul (by omega) (by omega) (by omega) (by omega)) fun _ => ?_
      kst_mem
      have ec : A.cols[j]? = some A.cols[j] := List.getElem?_eq_getElem hj
      have el : A.cols[j].length = A.n := wf.col _ (List.getElem_mem hj)
      have ei : A.cols[j][i]? = some (A.cols[j][i]'(by omega)) := List.getElem?_eq_getElem (by omega)
      obtain ⟨x, hx1, hx2⟩ := DatAll.at h3 (flat_at wf.col ec ei)
      have hb : j * A.n + i < vs.length := (List.getElem?_eq_some_iff.mp hx1).1
      have e6 : ((j : Int) * (A.n : Int) + (i : Int)) = ((j * A.n + i : Nat) : Int) := by push_cast; rfl
      refine l_item (I₀ := I₀) h2 (by rw [e6]; omega) (by rw [e6]; omega) (by rw [e6]; exact hx1) ?_
      kst_mem
      have hyl : ys.length ≤ 1000 := by
        have l1 := hy.length
        have l2 : (trA Dat.none A.n A.cols i j).length ≤ 420 := trA_len hn hc (by omega)
        omega
      refine ⟨_, _, _, .head, Nat.le_trans hyl (by decide), ?_⟩
      kst_mem
      exact ⟨⟨by kp_flats, by kp_flats, by kp_flats, by kp_flats, by kp_flats⟩, _, _, rfl, by rw [trA_next ec ei]; exact hy.append (.one (hx2.mono (sb (by kqd_sub))))⟩
    · rintro m₂ M₂ I₂ hI₂ ⟨⟨f1, f2, f3, f4, f5⟩, ys, c, rfl, hy⟩
      kst_mem
      exact ⟨⟨by kp_flats, by kp_flats, by kp_flats, by kp_flats⟩, _, _, rfl, by rw [← trA_row hi]; exact hy⟩
  · rintro m₁ M₁ I₁ hI₁ ⟨⟨e1, e2, e3, e4⟩, ys, c, rfl, hy⟩
    kst_mem
    kst_p
    kst_mem
    refine g_kind okb h1 fun _ => ?_
    kst_mem
    refine ⟨Nat.le_of_ble_eq_true rfl, fun D2 => ?_⟩
    kst_mem
    kst_p
    kst_mem
    refine c_axis_names (k := 1) (okb.le (by decide)) (hwb.trans hw) (by decide) hv0 fun u1 hu1 => ?_
    kst_mem
    refine c_axis_names (k := 0) (okb.le (by decide)) (hwb.trans hw) (by decide) hv0 fun u0 hu0 => ?_
    kst_mem
    refine c_new_matrix (A := A.t) (I₀ := (D2, Li [.int A.cols.length t2, .int A.n t1] 0) :: (D, Li ys c) :: I₁) okb (hwb.trans hw) (vs := ys) (t1 := t2) (t2 := t1) ⟨D, c, rfl, .tail _ (.head _)⟩ ?_ ⟨D2, 0, rfl, by rw [show A.t.cols.length = A.n from tr_len]; exact .head _⟩ (hu1.mono (by kqd_sub)) (hu0.mono (by kqd_sub)) wf.z1 wf.z0 fun r I1 s1 hr => ?_
    · rw [trA_all] at hy
      exact hy.mono (sb (by kqd_sub))
    · exact q _ _ (by kqd_sub) hr
end
end
section
noncomputable def Kd.o : Kd → Nat | .l => 1 | .i => 2 | .d => 3
noncomputable def kOf : Nat → Kd | 3 => .d | 2 => .i | _ => .l
noncomputable def kmo (ks : List Kd) : Nat := ks.foldl (fun m k => max m k.o) 0
noncomputable def kmax (ks : List Kd) : Kd := kOf (kmo ks)
theorem kmo_snoc (ks : List Kd) (k : Kd) : kmo (ks ++ [k]) = max (kmo ks) k.o := by simp [kmo]
theorem kmo_le (ks : List Kd) : kmo ks ≤ 3 := by
  unfold kmo
  suffices ∀ m, m ≤ 3 → ks.foldl (fun m k => max m k.o) m ≤ 3 from this 0 (by omega)
  induction ks with
  | nil => intro m h; exact h
  | cons k r ih =>
    intro m h
    have : k.o ≤ 3 := by cases k <;> decide
    exact ih (max m k.o) (by omega)
theorem kmo_mono (ks : List Kd) : ∀ m, m ≤ ks.foldl (fun m k => max m k.o) m := by
  induction ks with
  | nil => intro m; exact Nat.le_refl _
  | cons k r ih => intro m; exact Nat.le_trans (Nat.le_max_left m k.o) (ih _)
theorem kmo_mem {ks : List Kd} {k : Kd} (h : k ∈ ks) : k.o ≤ kmo ks := by
  unfold kmo
  suffices ∀ m, k.o ≤ ks.foldl (fun m k => max m k.o) m from this 0
  induction ks with
  | nil => cases h
  | cons j r ih =>
    intro m
    rcases List.mem_cons.mp h with rfl | h
    · exact Nat.le_trans (Nat.le_max_right m k.o) (kmo_mono r _)
    · exact ih h _
theorem kmo_pos {ks : List Kd} (h : ks ≠ []) : 1 ≤ kmo ks := by
  cases ks with
  | nil => exact absurd rfl h
  | cons k r => exact Nat.le_trans (by cases k <;> decide) (kmo_mem (.head _))
theorem kOf_o {n : Nat} (h1 : 1 ≤ n) (h3 : n ≤ 3) : (kOf n).o = n := by
  match n, h1, h3 with
  | 1, _, _ => rfl
  | 2, _, _ => rfl
  | 3, _, _ => rfl
theorem kmax_ge {ks : List Kd} {k : Kd} (h : k ∈ ks) : k.o ≤ (kmax ks).o := by
  unfold kmax
  rw [kOf_o (kmo_pos (List.ne_nil_of_mem h)) (kmo_le ks)]
  exact kmo_mem h
theorem kinds7 (a b c d e f g : Tok) : StrsAre [.str "NULL" a, .str "logical" b, .str "integer" c, .str "double" d, .str "character" e, .str "list" f, .str "expression" g] (["NULL", "logical", "integer", "double", "character", "list", "expression"] : List Str) := .cons _ _ (.cons _ _ (.cons _ _ (.cons _ _ (.cons _ _ (.cons _ _ (.cons _ _ .nil))))))
section
variable {X : Post Value} {a : Act} {m : Map} {M I : Led} {n : Nat} {Q : Post Value} {w : World}
theorem c_kind_order (ok : a.Ok 1) {k : Kd} {t} (q : ∀ I' t', I ⊆ I' → Q (.int (k.o : Int) t') M I') : Ex a (call (.ref 360) [.str k.s t]) m M I Q X := by
  refine' Ex_call (binds := [("kind", .str k.s t)]) ok ?ho ?hcd ?hb ?hk ?hnd ?hco ?hgen ?hkk ?_
  ktr_room
  intro b okb hwb fm
  kst_mem
  refine ⟨Nat.le_of_ble_eq_true rfl, fun r => ?_⟩
  kst_mem
  refine in_strs (.ofI (.head _)) (kinds7 _ _ _ _ _ _ _) ?_
  kst_mem
  rw [show (["NULL", "logical", "integer", "double", "character", "list", "expression"] : List Str).any (· == k.s) = true by cases k <;> decide +kernel]
  kst_mem
  refine' E_method (id := "tuple.index") ?_ ?n1 ?n2 _ ?n3
  case n1 => rfl
  case n2 => rfl
  case n3 => rfl
  kst_mem
  refine ⟨[.ref r], fun P hP pl => method_tu (.ofI (.head _)) PySem.F.slot_tuple_index rfl hP, ?_⟩
  kst_mem
  refine tup_index (.ofI (.head _)) (kinds7 _ _ _ _ _ _ _) (by cases k <;> decide +kernel) fun t' => ?_
  have e : placeOf k.s (["NULL", "logical", "integer", "double", "character", "list", "expression"] : List Str) = k.o := by cases k <;> decide +kernel
  rw [e]
  exact q _ _ (by kqd_sub)
theorem c_common_kind (ok : a.Ok 2) {kv vs ks} {I₀ : Led} (hk : LiI I₀ kv vs) (hs : StrsAre vs (ks.map Kd.s)) (hne : ks ≠ []) (q : ∀ I' t', I ⊆ I' → Q (.str (kmax ks).s t') M I') (s₀ : I₀ ⊆ I := by kqd_sub) : Ex a (call (.ref 367) [kv]) m M I Q X := by
  obtain ⟨l, c, rfl, hl⟩ := hk.mono s₀
  have hlen : vs.length = ks.length := by rw [hs.length]; simp
  refine' Ex_call (binds := [("kinds", .ref l)]) ok ?ho ?hcd ?hb ?hk ?hnd ?hco ?hgen ?hkk ?_
  ktr_room
  intro b okb hwb fm
  kst_mem
  refine ⟨Nat.le_of_ble_eq_true rfl, fun r => ?_⟩
  kst_mem
  refine' X_for_list okb fm ?f1 ?f2 ?_
  case f1 => k_places
  case f2 => exact fun _ => rfl
  kst_mem
  let J_1 : Nat → Map → Led → Led → Prop := fun i m' M' I' => m' "names" = some (.ref r) ∧ (∃ t, m' "most" = some (.int (kmo (ks.take i) : Nat) t)) ∧ M' = M
  refine ⟨l, vs, c, rfl, .tail _ hl, J_1, ⟨by kp_flats, ⟨_, by rw [List.take_zero]; exact upd_at⟩, rfl⟩, ?_, ?_⟩
  · rintro i v m₁ M₁ I₁ hv hI₁ ⟨e1, ⟨t, e2⟩, rfl⟩
    have hi : i < ks.length := by rw [← hlen]; exact (List.getElem?_eq_some_iff.mp hv).1
    obtain ⟨k, hk⟩ : ∃ k, ks[i]? = some k := ⟨ks[i], List.getElem?_eq_getElem hi⟩
    obtain ⟨u, rfl⟩ : ∃ u, v = .str k.s u := by
      have := hs.get i k.s (by rw [List.getElem?_map, hk]; rfl)
      rw [hv] at this
      obtain ⟨u, e⟩ := this
      exact ⟨u, Option.some.inj e⟩
    kst_mem
    refine c_kind_order (okb.le (by decide)) fun I2 t' s2 => ?_
    kst_mem
    refine max_2 okb fun t2 => ?_
    kst_mem
    refine ⟨by kp_flats, ⟨t2, ?_⟩, rfl⟩
    rw [List.take_add_one, hk, Option.toList_some, kmo_snoc]
    have : max ((kmo (ks.take i) : Nat) : Int) ((k.o : Nat) : Int) = ((max (kmo (ks.take i)) k.o : Nat) : Int) := by omega
    rw [← this]
    exact upd_at
  · rintro m₁ M₁ I₁ hI₁ ⟨e1, ⟨t, e2⟩, rfl⟩
    rw [hlen, List.take_length] at e2
    have h1 := kmo_pos hne
    have h3 := kmo_le ks
    have hr : _ ∈ I₁ := hI₁ (.head _)
    obtain h | h | h : kmo ks = 1 ∨ kmo ks = 2 ∨ kmo ks = 3 := by omega
    · rw [h] at e2
      unfold kmax at q
      rw [h] at q
      kst_mem
      refine tup_item (.ofI hr) (by decide) (by decide) rfl ?_
      exact q _ _ (by kqd_sub)
    · rw [h] at e2
      unfold kmax at q
      rw [h] at q
      kst_mem
      refine tup_item (.ofI hr) (by decide) (by decide) rfl ?_
      exact q _ _ (by kqd_sub)
    · rw [h] at e2
      unfold kmax at q
      rw [h] at q
      kst_mem
      refine tup_item (.ofI hr) (by decide) (by decide) rfl ?_
      exact q _ _ (by kqd_sub)
end
end
section
noncomputable def cv (k k' : Kd) (d : Dat) : Dat := if k = k' then d else if k' = .d then (match d with | .int n => .tuple [.int n, .int 1] | d => d) else d
noncomputable def ItK : Kd → Dat → Prop
  | .d, d => d = .none ∨ ∃ n, d = .tuple [.int n, .int 2] ∨ d = .tuple [.int n, .int 1]
  | _, d => d = .none ∨ ∃ n, d = .int n
theorem cv_self (k : Kd) (d : Dat) : cv k k d = d := by simp [cv]
section
variable {X : Post Value} {a : Act} {m : Map} {M I : Led} {n : Nat} {Q : Post Value} {w : World}
theorem c_is_atomic_kind (ok : a.Ok 1) {k : Kd} {t} (q : ∀ I', I ⊆ I' → Q (.bool true) M I') : Ex a (call (.ref 437) [.str k.s t]) m M I Q X := by
  refine' Ex_call (binds := [("kind", .str k.s t)]) ok ?ho ?hcd ?hb ?hk ?hnd ?hco ?hgen ?hkk ?_
  ktr_room
  intro b okb hwb fm
  kst_mem
  refine ⟨Nat.le_of_ble_eq_true rfl, fun r => ?_⟩
  kst_mem
  refine in_strs (.ofI (.head _)) (ys := ["logical", "integer", "double", "character"]) (.cons _ _ (.cons _ _ (.cons _ _ (.cons _ _ .nil)))) ?_
  rw [show (["logical", "integer", "double", "character"] : List Str).any (· == k.s) = true by cases k <;> decide +kernel]
  exact q _ (by kqd_sub)
theorem c_from_int (ok : a.Ok 1) {i : Int} {t} (q : ∀ v I', I ⊆ I' → DatIn I' v (.tuple [.int i, .int 1]) → Q v M I') : Ex a (call (.ref 186) [.int i t]) m M I Q X := by
  refine' Ex_call (binds := [("n", .int i t)]) ok ?ho ?hcd ?hb ?hk ?hnd ?hco ?hgen ?hkk ?_
  ktr_room
  intro b okb hwb fm
  kst_mem
  refine ⟨Nat.le_of_ble_eq_true rfl, fun r => ?_⟩
  exact q _ _ (by kqd_sub) (.tuple (.head _) (.cons (.int _ _) (.cons (.int _ _) .nil)))
theorem c_to_double (ok : a.Ok 2) {k : Kd} {t v d nv} {I₀ : Led} (hk : k ≠ .d) (hv : DatIn I₀ v d) (hd' : ItK k d) (q : ∀ v I', I ⊆ I' → DatIn I' v (cv k .d d) → Q v M I') (s₀ : I₀ ⊆ I := by kqd_sub) : Ex a (call (.ref 416) [.str k.s t, v, nv]) m M I Q X := by
  refine' Ex_call (binds := [("kind", .str k.s t), ("item", v), ("notes", nv)]) ok ?ho ?hcd ?hb ?hk ?hnd ?hco ?hgen ?hkk ?_
  ktr_room
  intro b okb hwb fm
  kst_mem
  rw [show (k.s == ("double" : Str)) = false by cases k <;> first | exact absurd rfl hk | decide +kernel]
  kst_mem
  obtain rfl | ⟨i, rfl⟩ : d = .none ∨ ∃ n, d = .int n := by cases k <;> first | exact absurd rfl hk | exact hd'
  · cases hv
    kst_mem
    exact q _ _ (by kqd_sub) (by cases k <;> first | exact absurd rfl hk | exact .none)
  · cases hv
    kst_mem
    rw [show (k.s == ("character" : Str)) = false by cases k <;> decide +kernel]
    kst_mem
    refine c_from_int (okb.le (by decide)) fun v I' s' h => q v I' s' ?_
    have e : cv k .d (.int i) = .tuple [.int i, .int 1] := by cases k <;> first | exact absurd rfl hk | rfl
    rw [e]; exact h
theorem c_to_integer (ok : a.Ok 2) {k : Kd} {t v d nv} {I₀ : Led} (hk : k ≠ .d) (hv : DatIn I₀ v d) (q : ∀ v I', I ⊆ I' → DatIn I' v (cv k .i d) → Q v M I') (s₀ : I₀ ⊆ I := by kqd_sub) : Ex a (call (.ref 409) [.str k.s t, v, nv]) m M I Q X := by
  have e : cv k .i d = d := by cases k <;> first | exact absurd rfl hk | rfl
  rw [e] at q
  refine' Ex_call (binds := [("kind", .str k.s t), ("item", v), ("notes", nv)]) ok ?ho ?hcd ?hb ?hk ?hnd ?hco ?hgen ?hkk ?_
  ktr_room
  intro b okb hwb fm
  kst_mem
  by_cases hn : v = .none
  · subst hn
    kst_mem
    exact q _ _ (by kqd_sub) (hv.mono (sb s₀))
  · rw [show (v == Value.none) = false by simpa using hn]
    kst_mem
    rw [show (k.s == ("character" : Str)) = false by cases k <;> decide +kernel]
    kst_mem
    rw [show (k.s == ("double" : Str)) = false by cases k <;> first | exact absurd rfl hk | decide +kernel]
    kst_mem
    exact q _ _ (by kqd_sub) (hv.mono (sb s₀))
theorem c_item_as (ok : a.Ok 3) {k k' : Kd} {t t' v d nv} {I₀ : Led} (hlt : k.o < k'.o) (hv : DatIn I₀ v d) (hd' : ItK k d) (q : ∀ v I', I ⊆ I' → DatIn I' v (cv k k' d) → Q v M I') (s₀ : I₀ ⊆ I := by kqd_sub) : Ex a (call (.ref 430) [.str k.s t, v, .str k'.s t', nv]) m M I Q X := by
  refine' Ex_call (binds := [("kind", .str k.s t), ("item", v), ("to", .str k'.s t'), ("notes", nv)]) ok ?ho ?hcd ?hb ?hk ?hnd ?hco ?hgen ?hkk ?_
  ktr_room
  intro b okb hwb fm
  have hkd : k ≠ .d := fun e => by subst e; cases k' <;> simp [Kd.o] at hlt
  kst_mem
  rw [show (k.s == k'.s) = false by cases k <;> cases k' <;> first | decide +kernel | (simp [Kd.o] at hlt)]
  kst_mem
  rw [show (k'.s == ("list" : Str)) = false by cases k' <;> decide +kernel]
  kst_mem
  rw [show (k'.s == ("expression" : Str)) = false by cases k' <;> decide +kernel]
  kst_mem
  rw [show (k'.s == ("pairlist" : Str)) = false by cases k' <;> decide +kernel]
  kst_mem
  refine T_plain ?_
  kst_mem
  refine c_is_atomic_kind (okb.le (by decide)) fun I1 s1 => ?_
  kst_mem
  rw [show (k'.s == ("logical" : Str)) = false by cases k' <;> first | decide +kernel | (cases k <;> simp [Kd.o] at hlt)]
  kst_mem
  obtain rfl | rfl : k' = .i ∨ k' = .d := by cases k' <;> first | (left; rfl) | (right; rfl) | (cases k <;> simp [Kd.o] at hlt)
  · rw [show (Kd.i.s == ("integer" : Str)) = true by decide +kernel]
    kst_mem
    exact c_to_integer (okb.le (by decide)) hkd hv fun v I' s' h => q v I' (by kqd_sub) h
  · rw [show (Kd.d.s == ("integer" : Str)) = false by decide +kernel]
    kst_mem
    exact c_to_double (okb.le (by decide)) hkd hv hd' fun v I' s' h => q v I' (by kqd_sub) h
end
end
section
section
variable {X : Post Value} {a : Act} {m : Map} {M I : Led} {n : Nat} {Q : Post Value} {w : World}
theorem LiI.dat {v vs ds} (h : LiI I v vs) (k : DatAll I vs ds) : DatIn I v (.list ds) := by obtain ⟨l, c, rfl, h⟩ := h; exact .list h k
theorem dat_list {v ds} (h : DatIn I v (.list ds)) : ∃ vs, LiI I v vs ∧ DatAll I vs ds := by
  cases h with
  | list h k => exact ⟨_, ⟨_, _, rfl, h⟩, k⟩
theorem DatIn.ne {v ds} (h : DatIn I v (.list ds)) : (v == Value.none) = false := by cases h; rfl
theorem d_get {w : World} (hw : a.w = w) {v kvs x t} {I₀ : Led} {u} (h : DicI w I₀ v kvs) (e : (valueAt kvs x).getD .none = u) (q : Q u M I) (s₀ : I₀ ⊆ I := by kqd_sub) : Ex a (call (.builtin "dict.get") [v, .str x t]) m M I Q X := by
  replace h := h.mono s₀
  subst hw e
  obtain ⟨d, o, rfl, h1, h2, lo⟩ := h
  exact dict_get lo (.ofI h1) h2 q
theorem d_getmethod {w : World} (hw : a.w = w) {v kvs} {I₀ : Led} {pl : Sem Bool} {P : Post (Value × List Value)} (h : DicI w I₀ v kvs) (q : P (.builtin "dict.get", [v]) M I) (s₀ : I₀ ⊆ I := by kqd_sub) : Ex a (getMethod v "get" pl) m M I P X := by
  replace h := h.mono s₀
  subst hw
  obtain ⟨d, o, rfl, h1, h2, lo⟩ := h
  exact method_di (.ofI h1) h2 q
/-- v.attrs.get(name) -/
theorem c_get_attr (ok : a.Ok 1) (hw : a.w = w) {v k iv av kvs x t} {I₀ : Led} (hv : VecI I₀ v k iv av) {u} (hd' : DicI w I₀ av kvs) (e : (valueAt kvs x).getD .none = u) (q : Q u M I) (s₀ : I₀ ⊆ I := by kqd_sub) : Ex a (call (.ref 145) [v, .str x t]) m M I Q X := by
  refine' Ex_call (binds := [("v", v), ("name", .str x t)]) ok ?ho ?hcd ?hb ?hk ?hnd ?hco ?hgen ?hkk ?_
  ktr_room
  intro b okb hwb fm
  kst_mem
  refine g_attrs okb hv hd'.handed ?_
  kst_mem
  rw [hd'.ne]
  kst_mem
  refine' E_method (id := "dict.get") ?_ ?n1 ?n2 _ ?n3
  case n1 => rfl
  case n2 => rfl
  case n3 => rfl
  kst_mem
  refine g_attrs okb hv hd'.handed ?_
  refine ⟨[av], fun P hP pl => d_getmethod (hwb.trans hw) hd' hP, ?_⟩
  kst_mem
  exact d_get (hwb.trans hw) hd' e q
theorem DnI.dims {v dv rn cn} (h : DnI w I v dv rn cn) : ∃ kvs, DicI w I v kvs ∧ valueAt kvs "dim" = some dv ∧ (valueAt kvs "names").getD .none = .none := by
  rcases h with ⟨h1, h2, h3⟩ | ⟨nv, nl, n0, n1, h1, h2, h3, h4, h5⟩
  · exact ⟨_, h3, rfl, rfl⟩
  · exact ⟨_, h1, rfl, rfl⟩
/-- list(v.attrs['dim'].items) -/
theorem c_dim_of (ok : a.Ok 2) (hw : a.w = w) {v k iv av dv ds kvs r c} {I₀ : Led} (hv : VecI I₀ v k iv av) (hd' : DicI w I₀ av kvs) (hx : valueAt kvs "dim" = some dv) (h3 : DimI I₀ dv ds r c) (q : ∀ u t1 t2 I', I ⊆ I' → LiI I' u [.int (r : Int) t1, .int (c : Int) t2] → Q u M I') (s₀ : I₀ ⊆ I := by kqd_sub) : Ex a (call (.ref 157) [v]) m M I Q X := by
  refine' Ex_call (binds := [("v", v)]) ok ?ho ?hcd ?hb ?hk ?hnd ?hco ?hgen ?hkk ?_
  ktr_room
  intro b okb hwb fm
  kst_mem
  refine c_get_attr (u := dv) (okb.le (by decide)) (hwb.trans hw) hv hd' (by rw [hx]; rfl) ?_
  obtain ⟨t1, t2, h3, h4⟩ := h3
  kst_mem
  rw [h3.ne]
  kst_mem
  refine g_items okb h3 h4.handed ?_
  kst_mem
  exact i_copy h4 (by simp) fun u I1 s1 hu => q _ _ _ _ (by kqd_sub) hu
theorem c_names_of (ok : a.Ok 3) (hw : a.w = w) {v iv av dv ds r c kvs} {k : Kd} {I₀ : Led} (hv : VecI I₀ v k.s iv av) (hd' : DicI w I₀ av kvs) (hx : valueAt kvs "dim" = some dv) (hn : (valueAt kvs "names").getD .none = .none) (h3 : DimI I₀ dv ds r c) (q : ∀ I', I ⊆ I' → Q .none M I') (s₀ : I₀ ⊆ I := by kqd_sub) : Ex a (call (.ref 150) [v]) m M I Q X := by
  refine' Ex_call (binds := [("v", v)]) ok ?ho ?hcd ?hb ?hk ?hnd ?hco ?hgen ?hkk ?_
  ktr_room
  intro b okb hwb fm
  kst_mem
  refine g_kind okb hv fun _ => ?_
  kst_mem
  rw [show (k.s == ("language" : Str)) = false by cases k <;> decide +kernel]
  kst_mem
  refine g_kind okb hv fun _ => ?_
  kst_mem
  rw [show (k.s == ("environment" : Str)) = false by cases k <;> decide +kernel]
  kst_mem
  refine c_dim_of (okb.le (by decide)) (hwb.trans hw) hv hd' hx h3 fun u t1 t2 I1 s1 hu => ?_
  kst_mem
  rw [hu.ne]
  kst_mem
  refine l_len hu (by simp) fun _ => ?_
  kst_mem
  refine c_get_attr (u := .none) (okb.le (by decide)) (hwb.trans hw) hv hd' hn ?_
  kst_mem
  exact q _ (by kqd_sub)
theorem c_with_names (ok : a.Ok 1) {v} (q : Q v M I) : Ex a (call (.ref 463) [v, .none]) m M I Q X := by
  refine' Ex_call (binds := [("v", v), ("names", .none)]) ok ?ho ?hcd ?hb ?hk ?hnd ?hco ?hgen ?hkk ?_
  ktr_room
  intro b okb hwb fm
  kst_mem
  exact q
theorem VecI.isinst (ok : a.Ok n) {v k iv av} {I₀ : Led} (h : VecI I₀ v k iv av) (q : Q (.bool true) M I) (s₀ : I₀ ⊆ I := by kqd_sub) : Ex a (call (.builtin "isinstance") [v, .ref 99]) m M I Q X := by
  replace h := h.mono s₀
  obtain ⟨x, dx, o, t, sh, lo, rfl, h1, h2, f⟩ := h
  exact Mine.isinst ok (.ofI h1) (.ofI h2) (by k_is) q
/-- another kind's items -/
theorem c_as_kind (ok : a.Ok 5) (hw : a.w = w) {v iv vs av dv es r c kvs} {ds : List Dat} {k k' : Kd} {t nv} {I₀ : Led} (hlt : k.o < k'.o) (hv : VecI I₀ v k.s iv av) (hd' : DicI w I₀ av kvs) (hx : valueAt kvs "dim" = some dv) (hn : (valueAt kvs "names").getD .none = .none) (h3 : DimI I₀ dv es r c) (hi : LiI I₀ iv vs) (hds : DatAll I₀ vs ds) (hk : ∀ d ∈ ds, ItK k d) (hz : ds.length ≤ 1000)
    (q : ∀ u iu us I', I ⊆ I' → VecI I' u k'.s iu .none → LiI I' iu us → DatAll I' us (ds.map (cv k k')) → Q u M I') (s₀ : I₀ ⊆ I := by kqd_sub) : Ex a (call (.ref 468) [v, .str k'.s t, nv]) m M I Q X := by
  have hl := hds.length
  refine' Ex_call (binds := [("v", v), ("kind", .str k'.s t), ("notes", nv)]) ok ?ho ?hcd ?hb ?hk ?hnd ?hco ?hgen ?hkk ?_
  ktr_room
  intro b okb hwb fm
  kst_mem
  refine T_plain ?_
  kst_mem
  refine hv.isinst okb ?_
  kst_mem
  refine g_items okb hv hi.handed ?_
  kst_mem
  refine g_kind okb hv fun _ => ?_
  kst_mem
  rw [show (k.s != k'.s) = true by cases k <;> cases k' <;> first | decide +kernel | (simp [Kd.o] at hlt)]
  kst_mem
  with_reducible refine' X_comp_list okb fm ?c1 ?c2 ?c3 ?c4 ?c5 ?_
  case c1 => exact ⟨rfl, rfl, rfl, rfl, by rw [fm.ce]; rfl⟩
  case c2 => rfl
  case c3 => exact fun _ => rfl
  case c4 => k_places
  case c5 => unfold swapsWith; dsimp only; unfold Env.blockKind Env.kindOf; rw [fm.sc]; rfl
  kst_mem
  refine g_items okb hv hi.handed ?_
  obtain ⟨l, cc, rfl, hl'⟩ := hi.mono s₀
  let J_1 : Nat → List Value → Led → Led → Prop := fun i ys M₁ I₁ => M₁ = M ∧ DatAll I₁ ys ((ds.take i).map (cv k k'))
  refine ⟨l, vs, cc, rfl, hl', Nat.le_trans (by omega : vs.length ≤ 1000) (by decide), J_1, ⟨rfl, .nil⟩, ?_, ?_⟩
  · rintro C i x ys M₁ I₁ hxi hI₁ ⟨rfl, hy⟩
    have hik : i < ds.length := by rw [← hl]; exact (List.getElem?_eq_some_iff.mp hxi).1
    obtain ⟨x', hx', hxd⟩ := hds.get hik
    rw [hxi] at hx'; cases hx'
    kst_mem
    refine g_kind (okb.comp (by rfl) C) hv fun _ => ?_
    kst_mem
    refine c_item_as ((okb.comp (by rfl) C).le (by decide)) hlt (hxd.mono (sb (I' := I₁) (by kqd_sub))) (hk _ (List.getElem_mem hik)) fun u I2 s2 hu => ?_
    refine ⟨rfl, ?_⟩
    rw [List.take_add_one, List.getElem?_eq_getElem hik, List.map_append]
    exact (hy.mono (sb s2)).append (.one hu)
  · rintro ys M₁ I₁ hI₁ ⟨rfl, hy⟩ D c2
    rw [hl, List.take_length] at hy
    kst_mem
    kst_p
    kst_mem
    refine i_copy (I₀ := (D, Li ys c2) :: I₁) ⟨D, c2, rfl, .head _⟩ (by rw [hy.length]; simpa using hz) fun u I2 s2 hu => ?_
    kst_mem
    refine i_vector2 (okb.le (by decide)) fun r I3 s3 hr => ?_
    kst_mem
    refine c_names_of (okb.le (by decide)) (hwb.trans hw) hv hd' hx hn h3 fun I4 s4 => ?_
    kst_mem
    refine c_with_names (okb.le (by decide)) ?_
    exact q _ _ _ _ (by kqd_sub) (hr.mono (by kqd_sub)) (hu.mono (by kqd_sub)) (hy.mono (sb (by kqd_sub)))
/-- the items as the wanted kind's -/
theorem c_column_as (ok : a.Ok 8) (hw : a.w = w) {iv} {ds : List Dat} {k k' : Kd} {t t'} {I₀ : Led} (hle : k.o ≤ k'.o) (hi : DatIn I₀ iv (.list ds)) (hk : ∀ d ∈ ds, ItK k d) (hz : ds.length ≤ 1000)
    (q : ∀ u I', I ⊆ I' → DatIn I' u (.list (ds.map (cv k k'))) → Q u M I') (s₀ : I₀ ⊆ I := by kqd_sub) : Ex a (call (.ref 593) [iv, .str k.s t, .str k'.s t']) m M I Q X := by
  obtain ⟨vs, hi, hds⟩ := dat_list hi
  have hl := hds.length
  refine' Ex_call (binds := [("items", iv), ("kind", .str k.s t), ("wanted", .str k'.s t')]) ok ?ho ?hcd ?hb ?hk ?hnd ?hco ?hgen ?hkk ?_
  ktr_room
  intro b okb hwb fm
  kst_mem
  by_cases e : k = k'
  · subst e
    rw [show (k.s == k.s) = true by simp]
    kst_mem
    have e2 : ds.map (cv k k) = ds := by rw [show cv k k = id from funext fun d => cv_self k d]; simp
    rw [e2] at q
    exact q _ _ (by kqd_sub) ((hi.dat hds).mono (sb s₀))
  · rw [show (k.s == k'.s) = false by cases k <;> cases k' <;> first | decide +kernel | exact absurd rfl e]
    kst_mem
    refine l_len hi (by omega) fun t1 => ?_
    kst_mem
    refine ⟨Nat.le_of_ble_eq_true rfl, fun D => ?_⟩
    kst_mem
    rename_i tk
    kst_p
    kst_mem
    refine c_new_matrix (A := ⟨k, ds.length, [ds], none, none⟩) (I₀ := (D, Li [.int (vs.length : Nat) t1, .int 1 tk] 0) :: I) (okb.le (by decide)) (hwb.trans hw) (vs := vs) (hi.mono (by kqd_sub)) (by simpa using hds.mono (sb (by kqd_sub))) ⟨D, 0, rfl, by rw [hl]; exact .head _⟩ rfl rfl (fun _ h => nomatch h) (fun _ h => nomatch h) fun r I1 s1 hr => ?_
    obtain ⟨iv', vs', av, dv, es, k1, k2, k3, k4, k5⟩ := hr
    obtain ⟨kvs, k5, k6, k7⟩ := k5.dims
    kst_mem
    refine ⟨Nat.le_of_ble_eq_true rfl, fun D2 => ?_⟩
    kst_mem
    kst_p
    kst_mem
    refine c_as_kind (ds := ds) (okb.le (by decide)) (hwb.trans hw) (by show k.o < k'.o; cases k <;> cases k' <;> first | decide | exact absurd rfl e | (simp [Kd.o] at hle)) k1 k5 k6 k7 k4 k2 (by simpa using k3) hk hz fun u iu us I2 s2 j1 j2 j3 => ?_
    kst_mem
    refine g_items okb j1 j2.handed ?_
    exact q _ _ (by kqd_sub) (j2.dat j3)
end
end
section
structure Mt.Gd (A : Mt) : Prop where
  wf : A.Wf
  n1 : 1 ≤ A.n
  c1 : 1 ≤ A.cols.length
  rn : ∀ ns, A.rn = some ns → ns.length = A.n
  cn : ∀ ns, A.cn = some ns → ns.length = A.cols.length
  it : ∀ c ∈ A.cols, ∀ d ∈ c, ItK A.kind d
inductive Pt | nul | mat (A : Mt) | pln (ds : List Dat) (nm : Option (List Str))
noncomputable def PtI (w : World) (I : Led) (v : Value) : Pt → Prop
  | .nul => NulI I v
  | .mat A => MatI w I v A
  | .pln ds nm => PlnI w I v ds nm
noncomputable def PtsI (w : World) (I : Led) (vs : List Value) (ps : List Pt) : Prop := vs.length = ps.length ∧ ∀ (i : Nat) p, ps[i]? = some p → ∃ v, vs[i]? = some v ∧ PtI w I v p
noncomputable def Pt.live : Pt → Bool | .nul => false | _ => true
noncomputable def Pt.isMat : Pt → Bool | .mat _ => true | _ => false
noncomputable def Pt.kind : Pt → Kd | .mat A => A.kind | .pln .. => .i | .nul => .l
noncomputable def Pt.Gd (e : Nat) : Pt → Prop
  | .nul => True
  | .mat A => A.Gd ∧ A.n = e
  | .pln ds nm => ds ≠ [] ∧ ds.length ≤ e ∧ e % ds.length = 0 ∧ (∀ ns, nm = some ns → ns.length = e) ∧ ∀ d ∈ ds, ItK .i d
noncomputable def kix (ps : List Pt) (k : Nat) : List Nat := (List.range k).filter fun i => (ps[i]?).elim false Pt.live
theorem PtI.mono {w I I' v p} (h : PtI w I v p) (s : I ⊆ I') : PtI w I' v p := by
  cases p with
  | nul => exact NulI.mono h s
  | mat A => exact MatI.mono h s
  | pln ds nm => exact PlnI.mono h s
theorem PtsI.mono {w I I' vs ps} (h : PtsI w I vs ps) (s : I ⊆ I') : PtsI w I' vs ps := ⟨h.1, fun i p e => by obtain ⟨v, h1, h2⟩ := h.2 i p e; exact ⟨v, h1, h2.mono s⟩⟩
theorem kix_succ {ps : List Pt} {k : Nat} {p : Pt} (e : ps[k]? = some p) : kix ps (k + 1) = kix ps k ++ if p.live then [k] else [] := by
  unfold kix
  rw [List.range_succ, List.filter_append]
  congr 1
  simp only [List.filter_cons, List.filter_nil, e, Option.elim]
theorem kix_le {ps : List Pt} {k : Nat} : (kix ps k).length ≤ k := Nat.le_trans (List.length_filter_le _ _) (by simp)
theorem kix_mem {ps : List Pt} {k i : Nat} (h : i ∈ kix ps k) : i < k ∧ ∃ p, ps[i]? = some p ∧ p.live = true := by
  unfold kix at h
  rw [List.mem_filter] at h
  refine ⟨List.mem_range.mp h.1, ?_⟩
  cases e : ps[i]? with
  | none => rw [e] at h; cases h.2
  | some p => rw [e] at h; exact ⟨p, rfl, h.2⟩
noncomputable def anyMat (ps : List Pt) : Bool := ps.any Pt.isMat
theorem anyMat_succ {ps : List Pt} {k : Nat} {p : Pt} (e : ps[k]? = some p) : anyMat (ps.take (k + 1)) = (anyMat (ps.take k) || p.isMat) := by
  unfold anyMat
  rw [List.take_add_one, e, List.any_append]; simp
section
variable {X : Post Value} {a : Act} {m : Map} {M I : Led} {n : Nat} {Q : Post Value} {w : World}
theorem c_bound_extent (ok : a.Ok 4) (hw : a.w = w) {pv vs ps wv} {e : Nat} {I₀ : Led} (hp : LiI I₀ pv vs) (hps : PtsI w I₀ vs ps) (hg : ∀ p ∈ ps, p.Gd e) (hm : anyMat ps = true) (hz : ps.length ≤ 1000) (he : e ≤ 1000)
    (q : ∀ t I', I ⊆ I' → Q (.int (e : Int) t) M I') (s₀ : I₀ ⊆ I := by kqd_sub) : Ex a (call (.ref 548) [pv, wv]) m M I Q X := by
  have hl := hps.1
  refine' Ex_call (binds := [("parts", pv), ("word", wv)]) ok ?ho ?hcd ?hb ?hk ?hnd ?hco ?hgen ?hkk ?_
  ktr_room
  intro b okb hwb fm
  kst_mem
  refine neg_i fun t1 => ?_
  kst_mem
  with_reducible refine' X_for_range okb fm ?f1 ?f2 ?_
  case f1 => k_places
  case f2 => exact fun _ => rfl
  kst_mem
  refine l_len hp (by omega) fun t2 => ?_
  kst_mem
  refine range_1 fun r u1 u2 u3 => ?_
  let J_1 : Nat → Map → Led → Led → Prop := fun i m' M' I' => m' "parts" = some pv ∧ M' = M ∧ (∃ t, m' "extent" = some (.int (if anyMat (ps.take i) then (e : Int) else -1) t)) ∧ ∃ x t, m' "longest" = some (.int x t)
  refine ⟨r, vs.length, _, _, _, rfl, .head _, by omega, J_1, ⟨by kp_flats, rfl, ⟨t1, by kp_flats⟩, 0, _, by kp_flats⟩, ?_, ?_⟩
  · rintro i t m₁ M₁ I₁ hi hI₁ ⟨e1, rfl, ⟨t3, e2⟩, x, t4, e3⟩
    have hip : i < ps.length := by omega
    have hpi : ps[i]? = some ps[i] := List.getElem?_eq_getElem hip
    obtain ⟨v, hv1, hv2⟩ := hps.2 i _ hpi
    have hgi := hg _ (List.getElem_mem hip)
    have ha := anyMat_succ hpi
    kst_mem
    refine l_item hp (by omega) (by omega) (by simpa using hv1) ?_
    generalize ps[i] = p at *
    cases p with
    | nul =>
      kst_mem
      refine g_nkind okb hv2 fun _ => ?_
      kst_mem
      exact ⟨by kp_flats, rfl, ⟨t3, by rw [ha]; simp only [Pt.isMat, Bool.or_false]; kp_flats⟩, x, t4, by kp_flats⟩
    | mat A =>
      have hv2 : MatI w I₀ v A := hv2
      have hv0 := hv2
      obtain ⟨iv, vs', av, dv, ds, h1, h2, h3, h4, h5⟩ := hv0
      kst_mem
      refine g_kind okb h1 fun _ => ?_
      kst_mem
      rw [show (A.kind.s == ("NULL" : Str)) = false by cases A.kind <;> decide +kernel]
      kst_mem
      refine T_plain ?_
      kst_mem
      refine c_is_matrix (okb.le (by decide)) (hwb.trans hw) hv2 ?_
      kst_mem
      refine c_shape (okb.le (by decide)) (hwb.trans hw) hv2 fun l u4 u5 I2 s2 hl2 => ?_
      kst_mem
      refine tup_item (.ofI hl2) (by decide) (by decide) rfl ?_
      have en : A.n = e := hgi.2
      rw [en]
      kst_mem
      by_cases hc : anyMat (ps.take i) = true
      · rw [if_pos hc]
        rw [if_pos hc] at e2
        rw [show decide ((0 : Int) ≤ (e : Int)) = true by simp]
        kst_mem
        rw [show ((e : Int) != (e : Int)) = false by simp]
        kst_mem
        exact ⟨by kp_flats, rfl, ⟨u4, by rw [ha]; simp only [Pt.isMat, Bool.or_true, if_true]; kp_flats⟩, x, t4, by kp_flats⟩
      · rw [if_neg hc]
        rw [if_neg hc] at e2
        kst_mem
        exact ⟨by kp_flats, rfl, ⟨u4, by rw [ha]; simp only [Pt.isMat, Bool.or_true, if_true]; kp_flats⟩, x, t4, by kp_flats⟩
    | pln ds nm =>
      have hv2 : PlnI w I₀ v ds nm := hv2
      have hv0 := hv2
      obtain ⟨iv, vs', av, h1, h2, h3, h4⟩ := hv0
      have hds : vs'.length ≤ e := by rw [h3.length]; exact hgi.2.1
      kst_mem
      refine g_kind okb h1 fun _ => ?_
      kst_mem
      refine T_plain ?_
      kst_mem
      refine c_is_matrix_no (okb.le (by decide)) (hwb.trans hw) hv2 ?_
      kst_mem
      refine g_items okb h1 h2.handed ?_
      kst_mem
      refine l_len h2 (by omega) fun t5 => ?_
      kst_mem
      refine max_2 okb fun t6 => ?_
      kst_mem
      exact ⟨by kp_flats, rfl, ⟨t3, by rw [ha]; simp only [Pt.isMat, Bool.or_false]; kp_flats⟩, _, t6, by kp_flats⟩
  · rintro m₁ M₁ I₁ hI₁ ⟨e1, rfl, ⟨t3, e2⟩, x, t4, e3⟩
    rw [hl, List.take_length, hm, if_pos rfl] at e2
    kst_mem
    exact q _ _ (by kqd_sub)
end
end
section
noncomputable def IxI (I : Led) (v : Value) (ks : List Nat) : Prop := DatIn I v (.list (ks.map fun (k : Nat) => Dat.int (k : Int)))
theorem ix_list {I : Led} {v ks} (h : IxI I v ks) : ∃ vs, LiI I v vs ∧ vs.length = ks.length ∧ ∀ (i k : Nat), ks[i]? = some k → ∃ t : Tok, vs[i]? = some (Value.int ((k : Nat) : Int) t) := by
  obtain ⟨vs, h1, h2⟩ := dat_list h
  refine ⟨vs, h1, by rw [h2.length]; simp, fun i k e => ?_⟩
  obtain ⟨v, e1, e2⟩ := DatAll.at h2 (k := i) (d := Dat.int (k : Int)) (by rw [List.getElem?_map, e]; rfl)
  cases e2
  exact ⟨_, e1⟩
section
variable {X : Post Value} {a : Act} {m : Map} {M I : Led} {n : Nat} {Q : Post Value} {w : World}
theorem c_kept_places (ok : a.Ok 4) (hw : a.w = w) {pv vs ps et} {e : Nat} {I₀ : Led} (hp : LiI I₀ pv vs) (hps : PtsI w I₀ vs ps) (hg : ∀ p ∈ ps, p.Gd e) (hz : ps.length ≤ 1000) (he : e ≤ 1000)
    (q : ∀ v I', I ⊆ I' → IxI I' v (kix ps ps.length) → Q v M I') (s₀ : I₀ ⊆ I := by kqd_sub) : Ex a (call (.ref 555) [pv, .int (e : Int) et]) m M I Q X := by
  have hl := hps.1
  refine .fz ?_
  refine' Ex_call (binds := [("parts", pv), ("extent", .int (e : Int) et)]) ok ?ho ?hcd ?hb ?hk ?hnd ?hco ?hgen ?hkk ?_
  ktr_room
  intro b okb hwb fm
  kst_mem
  refine ⟨Nat.le_of_ble_eq_true rfl, fun D => ?_⟩
  kst_mem
  with_reducible refine' X_for_range okb fm ?f1 ?f2 ?_
  case f1 => k_places
  case f2 => exact fun _ => rfl
  kst_mem
  refine l_len hp (by omega) fun t2 => ?_
  kst_mem
  refine range_1 fun r u1 u2 u3 => ?_
  let J_1 : Nat → Map → Led → Led → Prop := fun i m' M' I' => m' "parts" = some pv ∧ m' "extent" = some (.int (e : Int) et) ∧ m' "found" = some (.ref D) ∧ ∃ ys c, M' = (D, Li ys c) :: M ∧ DatAll I' ys ((kix ps i).map fun (k : Nat) => Dat.int (k : Int))
  refine ⟨r, vs.length, _, _, _, rfl, .head _, by omega, J_1, ⟨by kp_flats, by kp_flats, by kp_flats, [], 0, rfl, .nil⟩, ?_, ?_⟩
  · rintro i t m₁ M₁ I₁ hi hI₁ ⟨e1, e2, e3, ys, c, rfl, hy⟩
    have hip : i < ps.length := by omega
    have hpi : ps[i]? = some ps[i] := List.getElem?_eq_getElem hip
    obtain ⟨v, hv1, hv2⟩ := hps.2 i _ hpi
    have hgi := hg _ (List.getElem_mem hip)
    have ha := kix_succ hpi
    have hyl := hy.length
    have hkl : (kix ps i).length ≤ i := kix_le
    rw [List.length_map] at hyl
    kst_mem
    refine l_item hp (by omega) (by omega) (by simpa using hv1) ?_
    generalize ps[i] = p at *
    cases p with
    | nul =>
      kst_mem
      refine g_nkind okb hv2 fun _ => ?_
      kst_mem
      refine ⟨by kp_flats, by kp_flats, by kp_flats, _, _, rfl, ?_⟩
      rw [ha]; simpa [Pt.live] using hy.mono (sb (by kqd_sub))
    | mat A =>
      have hv2 : MatI w I₀ v A := hv2
      have hv0 := hv2
      obtain ⟨iv, vs', av, dv, ds, h1, h2, h3, h4, h5⟩ := hv0
      kst_mem
      refine g_kind okb h1 fun _ => ?_
      kst_mem
      rw [show (A.kind.s != ("NULL" : Str)) = true by cases A.kind <;> decide +kernel]
      kst_mem
      refine T_plain ?_
      kst_mem
      refine c_is_matrix (okb.le (by decide)) (hwb.trans hw) hv2 ?_
      kst_mem
      refine E_append _ ?_
      kst_mem
      refine ⟨D, ys, c, rfl, .ofM (.head _), ?_⟩
      kst_mem
      refine ⟨_, _, _, .head, Nat.le_trans (by omega : ys.length ≤ 1000) (by decide), ?_⟩
      kst_mem
      refine ⟨by kp_flats, by kp_flats, by kp_flats, _, _, rfl, ?_⟩
      rw [ha, List.map_append]; exact (hy.mono (sb (by kqd_sub))).append (.one (.int _ _))
    | pln ds nm =>
      have hv2 : PlnI w I₀ v ds nm := hv2
      have hv0 := hv2
      obtain ⟨iv, vs', av, h1, h2, h3, h4⟩ := hv0
      have hds : vs'.length ≤ e := by rw [h3.length]; exact hgi.2.1
      have hpos : 0 < vs'.length := by rw [h3.length]; exact List.length_pos_iff.mpr hgi.1
      kst_mem
      refine g_kind okb h1 fun _ => ?_
      kst_mem
      refine T_plain ?_
      kst_mem
      refine c_is_matrix_no (okb.le (by decide)) (hwb.trans hw) hv2 ?_
      kst_mem
      refine g_items okb h1 h2.handed ?_
      kst_mem
      refine l_len h2 (by omega) fun t5 => ?_
      kst_mem
      rw [show decide ((0 : Int) < (vs'.length : Int)) = true by simpa using hpos]
      kst_mem
      refine E_append _ ?_
      kst_mem
      refine ⟨D, ys, c, rfl, .ofM (.head _), ?_⟩
      kst_mem
      refine ⟨_, _, _, .head, Nat.le_trans (by omega : ys.length ≤ 1000) (by decide), ?_⟩
      kst_mem
      refine ⟨by kp_flats, by kp_flats, by kp_flats, _, _, rfl, ?_⟩
      rw [ha, List.map_append]; exact (hy.mono (sb (by kqd_sub))).append (.one (.int _ _))
  · rintro m₁ M₁ I₁ hI₁ ⟨e1, e2, e3, ys, c, rfl, hy⟩
    rw [hl] at hy
    kst_mem
    exact ⟨_, _, .step .refl, q _ _ (by kqd_sub) (.list (.head _) (hy.mono (sb (by kqd_sub))))⟩
theorem c_note_recycling (ok : a.Ok 4) (hw : a.w = w) {pv vs ps et kv wv nv} {e : Nat} {ks : List Nat} {I₀ : Led} (hp : LiI I₀ pv vs) (hps : PtsI w I₀ vs ps) (hg : ∀ p ∈ ps, p.Gd e) (hkv : IxI I₀ kv ks) (hks : ∀ k ∈ ks, ∃ p, ps[k]? = some p ∧ p.live = true) (hz : ps.length ≤ 1000) (he : e ≤ 1000)
    (q : ∀ I', I ⊆ I' → Q .none M I') (s₀ : I₀ ⊆ I := by kqd_sub) : Ex a (call (.ref 562) [pv, kv, .int (e : Int) et, wv, nv]) m M I Q X := by
  have hl := hps.1
  obtain ⟨kvs, hk1, hk2, hk3⟩ := ix_list hkv
  refine' Ex_call (binds := [("parts", pv), ("kept", kv), ("extent", .int (e : Int) et), ("word", wv), ("notes", nv)]) ok ?ho ?hcd ?hb ?hk ?hnd ?hco ?hgen ?hkk ?_
  ktr_room
  intro b okb hwb fm
  kst_mem
  with_reducible refine' X_for_list okb fm ?f1 ?f2 ?_
  case f1 => k_places
  case f2 => exact fun _ => rfl
  kst_mem
  obtain ⟨l, c, rfl, hl'⟩ := hk1.mono s₀
  let J_2 : Nat → Map → Led → Led → Prop := fun i m' M' I' => m' "parts" = some pv ∧ m' "extent" = some (.int (e : Int) et) ∧ M' = M
  refine ⟨l, _, c, rfl, hl', J_2, ⟨by kp_flats, by kp_flats, rfl⟩, ?_, ?_⟩
  · rintro i v m₁ M₁ I₁ hv' hI₁ ⟨e1, e2, rfl⟩
    have hi : i < ks.length := by rw [← hk2]; exact (List.getElem?_eq_some_iff.mp hv').1
    obtain ⟨t, ht⟩ := hk3 i _ (List.getElem?_eq_getElem hi)
    rw [hv'] at ht; cases ht
    obtain ⟨p, hpi, hlive⟩ := hks _ (List.getElem_mem hi)
    generalize ks[i] = k at *
    obtain ⟨v, hv1, hv2⟩ := hps.2 k _ hpi
    have hgi := hg _ (List.mem_of_getElem? hpi)
    have hklt : k < ps.length := (List.getElem?_eq_some_iff.mp hpi).1
    kst_mem
    refine l_item hp (by omega) (by omega) (by simpa using hv1) ?_
    cases p with
    | nul => cases hlive
    | mat A =>
      have hv2 : MatI w I₀ v A := hv2
      have hv0 := hv2
      obtain ⟨iv, vs', av, dv, ds, h1, h2, h3, h4, h5⟩ := hv0
      have hz2 := hgi.1.wf.flat
      have hz3 := h3.length
      kst_mem
      refine g_items okb h1 h2.handed ?_
      kst_mem
      refine l_len h2 (by omega) fun t5 => ?_
      kst_mem
      refine T_plain ?_
      kst_mem
      refine c_is_matrix (okb.le (by decide)) (hwb.trans hw) hv2 ?_
      kst_mem
      exact ⟨by kp_flats, by kp_flats, rfl⟩
    | pln ds nm =>
      have hv2 : PlnI w I₀ v ds nm := hv2
      have hv0 := hv2
      obtain ⟨iv, vs', av, h1, h2, h3, h4⟩ := hv0
      have hds : vs'.length ≤ e := by rw [h3.length]; exact hgi.2.1
      have hpos : 0 < vs'.length := by rw [h3.length]; exact List.length_pos_iff.mpr hgi.1
      have hmod : e % vs'.length = 0 := by rw [h3.length]; exact hgi.2.2.1
      kst_mem
      refine g_items okb h1 h2.handed ?_
      kst_mem
      refine l_len h2 (by omega) fun t5 => ?_
      kst_mem
      refine T_plain ?_
      kst_mem
      refine c_is_matrix_no (okb.le (by decide)) (hwb.trans hw) hv2 ?_
      kst_mem
      rw [show decide ((0 : Int) < (vs'.length : Int)) = true by simpa using hpos]
      kst_mem
      rw [show decide ((e : Int) < (vs'.length : Int)) = false by simpa using hds]
      kst_mem
      refine mod_ii (by omega) fun t6 => ?_
      kst_mem
      rw [show (Int.fmod (e : Int) (vs'.length : Int) != 0) = false by
        rw [Int.fmod_eq_emod_of_nonneg _ (by omega), ← Int.natCast_emod, hmod]; rfl]
      kst_mem
      exact ⟨by kp_flats, by kp_flats, rfl⟩
  · rintro m₁ M₁ I₁ hI₁ ⟨e1, e2, rfl⟩
    kst_mem
    exact q _ (by kqd_sub)
end
end
section
noncomputable def Pt.cols (e : Nat) : Pt → List (List Dat)
  | .nul => []
  | .mat A => A.cols
  | .pln ds _ => [(List.range e).map fun i => ds.getD (i % ds.length) .none]
noncomputable def Pt.heads (nm : Option Str) : Pt → List Str
  | .nul => []
  | .mat A => A.cn.getD (List.replicate A.cols.length "")
  | .pln .. => [nm.getD ""]
noncomputable def Pt.rown : Pt → Option (List Str) | .mat A => A.rn | .pln _ nm => nm | .nul => none
noncomputable def NaI (v : Value) : Option Str → Prop | none => v = .none | some x => ∃ t, v = .str x t
section
variable {X : Post Value} {a : Act} {m : Map} {M I : Led} {n : Nat} {Q : Post Value} {w : World}
theorem strs_rep {k : Nat} {x : Str} {t : Tok} : StrsAre (List.replicate k (Value.str x t)) (List.replicate k x) := by
  induction k with
  | zero => exact .nil
  | succ k ih => exact .cons _ _ ih
theorem c_joined_kind (ok : a.Ok 3) {pv vs ps} {I₀ : Led} (hp : LiI I₀ pv vs) (hps : PtsI w I₀ vs ps) (hlv : ∀ p ∈ ps, p.live = true) (hne : ps ≠ []) (hz : ps.length ≤ 1000)
    (q : ∀ I' t', I ⊆ I' → Q (.str (kmax (ps.map Pt.kind)).s t') M I') (s₀ : I₀ ⊆ I := by kqd_sub) : Ex a (call (.ref 541) [pv]) m M I Q X := by
  have hl := hps.1
  refine .fz ?_
  refine' Ex_call (binds := [("parts", pv)]) ok ?ho ?hcd ?hb ?hk ?hnd ?hco ?hgen ?hkk ?_
  ktr_room
  intro b okb hwb fm
  kst_mem
  with_reducible refine' E_comp_list okb ?c1 ?c2 ?c3 ?_
  case c1 => exact ⟨rfl, rfl, rfl, rfl, rfl⟩
  case c2 => rfl
  case c3 => exact fun _ => rfl
  kst_mem
  obtain ⟨l, cc, rfl, hl'⟩ := hp.mono s₀
  let J_1 : Nat → List Value → Led → Led → Prop := fun i ys M₁ I₁ => M₁ = M ∧ StrsAre ys (((ps.take i).map Pt.kind).map Kd.s)
  refine ⟨l, vs, cc, rfl, hl', Nat.le_trans (by omega : vs.length ≤ 1000) (by decide), J_1, ⟨rfl, .nil⟩, ?_, ?_⟩
  · rintro C i x ys M₁ I₁ hxi hI₁ ⟨rfl, hy⟩
    have hip : i < ps.length := by rw [← hl]; exact (List.getElem?_eq_some_iff.mp hxi).1
    have hpi : ps[i]? = some ps[i] := List.getElem?_eq_getElem hip
    obtain ⟨v, hv1, hv2⟩ := hps.2 i _ hpi
    rw [hxi] at hv1; cases hv1
    have hlive := hlv _ (List.getElem_mem hip)
    have fin : ∀ t, StrsAre (ys ++ [.str (ps[i]).kind.s t]) (((ps.take (i + 1)).map Pt.kind).map Kd.s) := fun t => by
      rw [List.take_add_one, hpi, List.map_append, List.map_append]
      exact strsAre_append hy (.cons _ _ .nil)
    generalize ps[i] = p at *
    kst_mem
    cases p with
    | nul => cases hlive
    | mat A =>
      have hv2 : MatI w I₀ x A := hv2
      obtain ⟨iv, vs', av, dv, ds, h1, h2, h3, h4, h5⟩ := hv2
      exact g_kind (okb.comp (by rfl) C) h1 fun t => ⟨rfl, fin t⟩
    | pln ds nm =>
      have hv2 : PlnI w I₀ x ds nm := hv2
      obtain ⟨iv, vs', av, h1, h2, h3, h4⟩ := hv2
      exact g_kind (okb.comp (by rfl) C) h1 fun t => ⟨rfl, fin t⟩
  · rintro ys M₁ I₁ hI₁ ⟨rfl, hy⟩ D c2
    rw [hl, List.take_length] at hy
    kst_mem
    kst_p
    refine c_common_kind (I₀ := (D, Li ys c2) :: I₁) (okb.le (by decide)) ⟨D, c2, rfl, .head _⟩ hy (by simpa using hne) fun I2 t' s2 => ?_
    exact ⟨_, _, .refl, q _ _ (by kqd_sub)⟩
theorem c_part_columns (ok : a.Ok 4) (hw : a.w = w) {v p et} {e : Nat} {I₀ : Led} (hv : PtI w I₀ v p) (hg : p.Gd e) (hlive : p.live = true) (he : e ≤ 1000)
    (q : ∀ u I', I ⊆ I' → DatIn I' u (.list ((p.cols e).map .list)) → Q u M I') (s₀ : I₀ ⊆ I := by kqd_sub) : Ex a (call (.ref 567) [v, .int (e : Int) et]) m M I Q X := by
  refine .fz ?_
  refine' Ex_call (binds := [("part", v), ("extent", .int (e : Int) et)]) ok ?ho ?hcd ?hb ?hk ?hnd ?hco ?hgen ?hkk ?_
  ktr_room
  intro b okb hwb fm
  kst_mem
  cases p with
  | nul => cases hlive
  | mat A =>
    have hv : MatI w I₀ v A := hv
    have wf := hg.1.wf
    have hzf := wf.flat
    have hzc := wf.c
    refine T_plain ?_
    kst_mem
    refine c_is_matrix (okb.le (by decide)) (hwb.trans hw) hv ?_
    kst_mem
    with_reducible refine' E_comp_range okb ?c1 ?c2 ?c3 ?_
    case c1 => exact ⟨rfl, rfl, rfl, rfl, by rw [fm.ce]; rfl⟩
    case c2 => rfl
    case c3 => exact fun _ => rfl
    kst_mem
    refine c_shape (okb.le (by decide)) (hwb.trans hw) hv fun l u4 u5 I2 s2 hl2 => ?_
    kst_mem
    refine tup_item (.ofI hl2) (by decide) (by decide) rfl ?_
    kst_mem
    refine range_1 fun r u1 u2 u3 => ?_
    let J_2 : Nat → List Value → Led → Led → Prop := fun i ys M₁ I₁ => M₁ = M ∧ DatAll I₁ ys ((A.cols.take i).map .list)
    refine ⟨r, A.cols.length, _, _, _, rfl, .head _, by omega, J_2, ⟨rfl, .nil⟩, ?_, ?_⟩
    · rintro C i t ys M₁ I₁ hi hI₁ ⟨rfl, hy⟩
      have hc : A.cols[i]? = some A.cols[i] := List.getElem?_eq_getElem hi
      kst_mem
      refine c_column_items ((okb.comp (by rfl) C).le (by decide)) (hwb.trans hw) hv wf.col (by omega) (by omega) hc fun r vs I3 s3 k1 k2 => ⟨rfl, ?_⟩
      rw [List.take_add_one, hc, List.map_append]
      exact (hy.mono (sb (by kqd_sub))).append (.one (k1.dat k2))
    · rintro ys M₁ I₁ hI₁ ⟨rfl, hy⟩ D c
      rw [List.take_length] at hy
      exact ⟨_, _, .step .refl, q _ _ (by kqd_sub) (.list (.head _) (hy.mono (sb (by kqd_sub))))⟩
  | pln ds nm =>
    have hv : PlnI w I₀ v ds nm := hv
    have hv0 := hv
    obtain ⟨iv, vs', av, h1, h2, h3, h4⟩ := hv0
    have hl3 := h3.length
    have hds : vs'.length ≤ e := by rw [h3.length]; exact hg.2.1
    have hpos : 0 < vs'.length := by rw [h3.length]; exact List.length_pos_iff.mpr hg.1
    refine T_plain ?_
    kst_mem
    refine c_is_matrix_no (okb.le (by decide)) (hwb.trans hw) hv ?_
    kst_mem
    refine g_items okb h1 h2.handed ?_
    kst_mem
    refine l_len h2 (by omega) fun t5 => ?_
    kst_mem
    with_reducible refine' E_comp_range okb ?c1 ?c2 ?c3 ?_
    case c1 => exact ⟨rfl, rfl, rfl, rfl, by rw [fm.ce]; rfl⟩
    case c2 => rfl
    case c3 => exact fun _ => rfl
    kst_mem
    refine range_1 fun r u1 u2 u3 => ?_
    let J_3 : Nat → List Value → Led → Led → Prop := fun i ys M₁ I₁ => M₁ = M ∧ DatAll I₁ ys ((List.range i).map fun i => ds.getD (i % ds.length) .none)
    refine ⟨r, e, _, _, _, rfl, .head _, by omega, J_3, ⟨rfl, .nil⟩, ?_, ?_⟩
    · rintro C i t ys M₁ I₁ hi hI₁ ⟨rfl, hy⟩
      kst_mem
      refine g_items (okb.comp (by rfl) C) h1 h2.handed ?_
      kst_mem
      refine mod_ii (by omega) fun t6 => ?_
      have hm : i % vs'.length < vs'.length := Nat.mod_lt _ hpos
      have em : Int.fmod (i : Int) (vs'.length : Int) = ((i % vs'.length : Nat) : Int) := by
        rw [Int.fmod_eq_emod_of_nonneg _ (by omega)]; simp
      have hm2 : i % vs'.length < ds.length := by rw [← hl3]; exact hm
      rw [em]
      kst_mem
      obtain ⟨x, hx1, hx2⟩ := DatAll.at h3 (List.getElem?_eq_getElem hm2)
      have ex : ds.getD (i % ds.length) .none = ds[i % vs'.length] := by rw [← hl3, List.getD_eq_getElem?_getD, List.getElem?_eq_getElem hm2]; rfl
      have fin : DatAll I₁ (ys ++ [x]) ((List.range (i + 1)).map fun i => ds.getD (i % ds.length) .none) := by
        rw [List.range_succ, List.map_append]
        refine hy.append (.one ?_)
        show DatIn I₁ x (ds.getD (i % ds.length) .none)
        rw [ex]
        exact hx2.mono (sb (by kqd_sub))
      clear ex em hx2
      generalize i % vs'.length = j at *
      exact l_item h2 (by omega) (by omega) (by simpa using hx1) ⟨rfl, fin⟩
    · rintro ys M₁ I₁ hI₁ ⟨rfl, hy⟩ D c
      kst_mem
      refine ⟨Nat.le_of_ble_eq_true rfl, fun D2 => ?_⟩
      exact ⟨_, _, .step (.step .refl), q _ _ (by kqd_sub) (.list (.tail _ (.head _)) (.one (.list (.head _) (hy.mono (sb (by kqd_sub))))))⟩
theorem c_part_heads (ok : a.Ok 4) (hw : a.w = w) {v p nv nm} {e : Nat} {I₀ : Led} (hv : PtI w I₀ v p) (hg : p.Gd e) (hlive : p.live = true) (hn : NaI nv nm)
    (q : ∀ u I', I ⊆ I' → TxI I' u (p.heads nm) → Q u M I') (s₀ : I₀ ⊆ I := by kqd_sub) : Ex a (call (.ref 574) [v, nv]) m M I Q X := by
  refine .fz ?_
  refine' Ex_call (binds := [("part", v), ("name", nv)]) ok ?ho ?hcd ?hb ?hk ?hnd ?hco ?hgen ?hkk ?_
  ktr_room
  intro b okb hwb fm
  kst_mem
  cases p with
  | nul => cases hlive
  | mat A =>
    have hv : MatI w I₀ v A := hv
    have wf := hg.1.wf
    have hzc := wf.c
    refine T_plain ?_
    kst_mem
    refine c_is_matrix (okb.le (by decide)) (hwb.trans hw) hv ?_
    kst_mem
    refine c_axis_names (k := 1) (okb.le (by decide)) (hwb.trans hw) (by decide) hv fun u1 hu1 => ?_
    kst_mem
    cases ec : A.cn with
    | none =>
      rw [if_neg (by decide), ec] at hu1
      cases hu1
      kst_mem
      refine ⟨Nat.le_of_ble_eq_true rfl, fun D => ?_⟩
      kst_mem
      refine c_shape (okb.le (by decide)) (hwb.trans hw) hv fun l u4 u5 I2 s2 hl2 => ?_
      kst_mem
      refine tup_item (.ofI hl2) (by decide) (by decide) rfl ?_
      kst_mem
      refine mul_li (.ofM (.head _)) (by omega) fun D2 => ?_
      exact ⟨_, _, .step (.step .refl), q _ _ (by kqd_sub) ⟨_, ⟨D2, 0, rfl, .tail _ (.head _)⟩, by simpa [Pt.heads, ec] using strs_rep⟩⟩
    | some ns =>
      rw [if_neg (by decide), ec] at hu1
      rw [TxI.ne hu1]
      kst_mem
      obtain ⟨us, hu2, hu3⟩ := hu1
      have hcl := hg.1.cn _ ec
      refine i_copy hu2 (by rw [hu3.length]; omega) fun u I2 s2 hu => ?_
      refine ⟨_, _, .refl, q _ _ (by kqd_sub) ⟨us, hu, ?_⟩⟩
      simpa [Pt.heads, ec] using hu3
  | pln ds nm' =>
    have hv : PlnI w I₀ v ds nm' := hv
    refine T_plain ?_
    kst_mem
    refine c_is_matrix_no (okb.le (by decide)) (hwb.trans hw) hv ?_
    kst_mem
    cases nm with
    | none =>
      cases hn
      kst_mem
      refine ⟨Nat.le_of_ble_eq_true rfl, fun D2 => ?_⟩
      exact ⟨_, _, .step .refl, q _ _ (by kqd_sub) ⟨_, ⟨D2, 0, rfl, .head _⟩, .cons _ _ .nil⟩⟩
    | some x =>
      obtain ⟨t, rfl⟩ := hn
      kst_mem
      refine ⟨Nat.le_of_ble_eq_true rfl, fun D2 => ?_⟩
      exact ⟨_, _, .step .refl, q _ _ (by kqd_sub) ⟨_, ⟨D2, 0, rfl, .head _⟩, .cons _ _ .nil⟩⟩
theorem c_bound_row_names (ok : a.Ok 4) (hw : a.w = w) {pv vs ps et kv} {e : Nat} {ks : List Nat} {I₀ : Led} (hp : LiI I₀ pv vs) (hps : PtsI w I₀ vs ps) (hg : ∀ p ∈ ps, p.Gd e) (hkv : IxI I₀ kv ks) (hks : ∀ k ∈ ks, ∃ p, ps[k]? = some p ∧ p.live = true) (hz : ps.length ≤ 1000) (he : e ≤ 1000)
    (q : ∀ u I', I ⊆ I' → NmI I' u (ks.findSome? fun k => (ps[k]?).bind Pt.rown) → Q u M I') (s₀ : I₀ ⊆ I := by kqd_sub) : Ex a (call (.ref 581) [pv, kv, .int (e : Int) et]) m M I Q X := by
  have hl := hps.1
  obtain ⟨kvs, hk1, hk2, hk3⟩ := ix_list hkv
  refine' Ex_call (binds := [("parts", pv), ("kept", kv), ("extent", .int (e : Int) et)]) ok ?ho ?hcd ?hb ?hk ?hnd ?hco ?hgen ?hkk ?_
  ktr_room
  intro b okb hwb fm
  kst_mem
  with_reducible refine' X_for_list okb fm ?f1 ?f2 ?_
  case f1 => k_places
  case f2 => exact fun _ => rfl
  kst_mem
  obtain ⟨l, c, rfl, hl'⟩ := hk1.mono s₀
  let J_4 : Nat → Map → Led → Led → Prop := fun i m' M' I' => m' "parts" = some pv ∧ m' "extent" = some (.int (e : Int) et) ∧ M' = M ∧ (ks.take i).findSome? (fun k => (ps[k]?).bind Pt.rown) = none
  refine ⟨l, _, c, rfl, hl', J_4, ⟨by kp_flats, by kp_flats, rfl, rfl⟩, ?_, ?_⟩
  · rintro i v m₁ M₁ I₁ hv' hI₁ ⟨e1, e2, rfl, hf⟩
    have hi : i < ks.length := by rw [← hk2]; exact (List.getElem?_eq_some_iff.mp hv').1
    obtain ⟨t, ht⟩ := hk3 i _ (List.getElem?_eq_getElem hi)
    rw [hv'] at ht; cases ht
    obtain ⟨p, hpi, hlive⟩ := hks _ (List.getElem_mem hi)
    have f1 : p.rown = none → (ks.take (i + 1)).findSome? (fun k => (ps[k]?).bind Pt.rown) = none := fun h => by
      rw [List.take_add_one, List.findSome?_append, hf, List.getElem?_eq_getElem hi]
      simp [hpi, h]
    have f2 : ∀ ns, p.rown = some ns → ks.findSome? (fun k => (ps[k]?).bind Pt.rown) = some ns := fun ns h => by
      rw [← List.take_append_drop i ks, List.findSome?_append, hf, List.drop_eq_getElem_cons hi, List.findSome?_cons]
      simp only [hpi, h, Option.bind_some]
      rfl
    generalize ks[i] = k at *
    obtain ⟨v, hv1, hv2⟩ := hps.2 k _ hpi
    have hgi := hg _ (List.mem_of_getElem? hpi)
    have hklt : k < ps.length := (List.getElem?_eq_some_iff.mp hpi).1
    kst_mem
    refine l_item hp (by omega) (by omega) (by simpa using hv1) ?_
    cases p with
    | nul => cases hlive
    | mat A =>
      have hv2 : MatI w I₀ v A := hv2
      kst_mem
      refine T_plain ?_
      kst_mem
      refine c_is_matrix (okb.le (by decide)) (hwb.trans hw) hv2 ?_
      kst_mem
      refine c_axis_names (k := 0) (okb.le (by decide)) (hwb.trans hw) (by decide) hv2 fun u hu => ?_
      rw [if_pos rfl] at hu
      kst_mem
      cases er : A.rn with
      | none =>
        rw [er] at hu
        cases hu
        kst_mem
        exact ⟨by kp_flats, by kp_flats, rfl, f1 er⟩
      | some ns =>
        rw [er] at hu
        have hul := (hgi.1.rn ns er).trans hgi.2
        obtain ⟨us, hu2, hu3⟩ := hu
        have hu4 := hu3.length
        rw [hu2.ne]
        kst_mem
        refine l_len hu2 (by omega) fun t6 => ?_
        kst_mem
        rw [show ((us.length : Int) == (e : Int)) = true by rw [hu4, hul]; simp]
        kst_mem
        refine i_copy hu2 (by omega) fun u' I2 s2 hu' => ?_
        kst_mem
        exact q _ _ (by kqd_sub) (by rw [f2 ns er]; exact ⟨us, hu', hu3⟩)
    | pln ds nm =>
      have hv2 : PlnI w I₀ v ds nm := hv2
      kst_mem
      refine T_plain ?_
      kst_mem
      refine c_is_matrix_no (okb.le (by decide)) (hwb.trans hw) hv2 ?_
      kst_mem
      refine c_plain_names (okb.le (by decide)) (hwb.trans hw) hv2 fun u hu => ?_
      kst_mem
      cases er : nm with
      | none =>
        rw [er] at hu
        cases hu
        kst_mem
        exact ⟨by kp_flats, by kp_flats, rfl, f1 er⟩
      | some ns =>
        rw [er] at hu
        have hul := hgi.2.2.2.1 ns er
        obtain ⟨us, hu2, hu3⟩ := hu
        have hu4 := hu3.length
        rw [hu2.ne]
        kst_mem
        refine l_len hu2 (by omega) fun t6 => ?_
        kst_mem
        rw [show ((us.length : Int) == (e : Int)) = true by rw [hu4, hul]; simp]
        kst_mem
        refine i_copy hu2 (by omega) fun u' I2 s2 hu' => ?_
        kst_mem
        exact q _ _ (by kqd_sub) (by rw [f2 ns er]; exact ⟨us, hu', hu3⟩)
  · rintro m₁ M₁ I₁ hI₁ ⟨e1, e2, rfl, hf⟩
    rw [hk2, List.take_length] at hf
    kst_mem
    exact q _ _ (by kqd_sub) (by rw [hf]; rfl)
end
end
section
abbrev PQ := Pt × Option Str
noncomputable def ccols (e : Nat) (k : Kd) (p : Pt) : List (List Dat) := (p.cols e).map (·.map (cv p.kind k))
noncomputable def bindBy (e : Nat) (qs : List PQ) : Mt :=
  ⟨kmax (qs.map (·.1.kind)), e, (qs.map fun q => ccols e (kmax (qs.map (·.1.kind))) q.1).flatten, qs.findSome? (·.1.rown),
    if ((qs.map fun q => q.1.heads q.2).flatten.any (· != ("" : Str))) then some (qs.map fun q => q.1.heads q.2).flatten else none⟩
noncomputable def pq (ps : List Pt) (ns : List (Option Str)) (k : Nat) : PQ := (ps.getD k .nul, ns.getD k none)
noncomputable def NasI (vs : List Value) (ns : List (Option Str)) : Prop := ∀ (i : Nat) nm, ns[i]? = some nm → ∃ v, vs[i]? = some v ∧ NaI v nm
noncomputable def pS : Value → Bool | .str z _ => z != ("" : Str) | _ => true
theorem pS_any {vs : List Value} {ns : List Str} (h : StrsAre vs ns) : decide ((0 : Int) < ((vs.filter pS).length : Int)) = ns.any (· != ("" : Str)) := by
  induction h with
  | nil => rfl
  | cons y t h ih =>
    rw [List.filter_cons, List.any_cons]
    by_cases e : (y != ("" : Str)) = true
    · have : pS (.str y t) = true := e
      rw [if_pos this, e]; simp
    · have e' : (y != ("" : Str)) = false := by simpa using e
      have : ¬ pS (.str y t) = true := by show ¬ (y != ("" : Str)) = true; exact e
      rw [if_neg this, e', Bool.false_or]; exact ih
theorem pre_len {α : Type} {L : List (List α)} {i : Nat} : (L.take i).flatten.length ≤ L.flatten.length := by
  conv => rhs; rw [← List.take_append_drop i L, List.flatten_append, List.length_append]
  omega
theorem pre_next {α : Type} {L : List (List α)} {i : Nat} {g : List α} (e : L[i]? = some g) : (L.take (i + 1)).flatten = (L.take i).flatten ++ g := by
  rw [List.take_add_one, e, List.flatten_append]; simp
theorem heads_len {e : Nat} {p : Pt} {nm : Option Str} (hg : p.Gd e) (hl : p.live = true) : (p.heads nm).length = (p.cols e).length := by
  cases p with
  | nul => cases hl
  | mat A =>
    show (A.cn.getD (List.replicate A.cols.length ("" : Str))).length = A.cols.length
    cases h : A.cn with
    | none => simp
    | some ns => exact hg.1.cn ns h
  | pln => rfl
theorem cols_len {e : Nat} {p : Pt} (hg : p.Gd e) : ∀ c ∈ p.cols e, c.length = e := by
  cases p with
  | nul => intro c h; cases h
  | mat A => intro c h; rw [← hg.2]; exact hg.1.wf.col c h
  | pln ds nm => intro c h; rw [List.mem_singleton.mp h]; simp
theorem cols_pos {e : Nat} {p : Pt} (hg : p.Gd e) (hl : p.live = true) : 1 ≤ (p.cols e).length := by
  cases p with
  | nul => cases hl
  | mat A => exact hg.1.c1
  | pln ds nm => simp [Pt.cols]
theorem cols_it {e : Nat} {p : Pt} (hg : p.Gd e) : ∀ c ∈ p.cols e, ∀ d ∈ c, ItK p.kind d := by
  cases p with
  | nul => intro c h; cases h
  | mat A => exact hg.1.it
  | pln ds nm =>
    intro c h d hd
    rw [List.mem_singleton.mp h] at hd
    obtain ⟨i, hi, rfl⟩ := List.mem_map.mp hd
    have hp : i % ds.length < ds.length := Nat.mod_lt _ (List.length_pos_iff.mpr hg.1)
    rw [List.getD_eq_getElem?_getD, List.getElem?_eq_getElem hp]
    exact hg.2.2.2.2 _ (List.getElem_mem hp)
theorem ccols_len {e : Nat} {k : Kd} {p : Pt} (hg : p.Gd e) : ∀ c ∈ ccols e k p, c.length = e := by
  intro c h
  obtain ⟨c', h', rfl⟩ := List.mem_map.mp h
  rw [List.length_map]; exact cols_len hg c' h'
theorem PtsI.snoc {w I vs ps v p} (h : PtsI w I vs ps) (k : PtI w I v p) : PtsI w I (vs ++ [v]) (ps ++ [p]) := by
  refine ⟨by simp [h.1], fun i q e => ?_⟩
  by_cases hi : i < ps.length
  · rw [List.getElem?_append_left hi] at e
    obtain ⟨v', h1, h2⟩ := h.2 i q e
    exact ⟨v', by rw [List.getElem?_append_left (by rw [h.1]; exact hi)]; exact h1, h2⟩
  · have hi2 : i = ps.length := by
      have := (List.getElem?_eq_some_iff.mp e).1
      simp at this; omega
    subst hi2
    simp at e; subst e
    exact ⟨v, by rw [← h.1]; simp, k⟩
section
variable {X : Post Value} {a : Act} {m : Map} {M I : Led} {n : Nat} {Q : Post Value} {w : World}
theorem flat_len2 {α β γ : Type} {f : α → List β} {g : α → List γ} {l : List α} (h : ∀ x ∈ l, (f x).length = (g x).length) : (l.map f).flatten.length = (l.map g).flatten.length := by
  induction l with
  | nil => rfl
  | cons x r ih =>
    rw [List.map_cons, List.map_cons, List.flatten_cons, List.flatten_cons, List.length_append, List.length_append, h x (.head _), ih fun y hy => h y (.tail _ hy)]
theorem g_pkind (ok : a.Ok n) {v p} {I₀ : Led} (h : PtI w I₀ v p) (hl : p.live = true) (q : ∀ t, Q (.str p.kind.s t) M I) (s₀ : I₀ ⊆ I := by kqd_sub) : Ex a (getAttr v "kind" true) m M I Q X := by
  cases p with
  | nul => cases hl
  | mat A =>
    have hv2 : MatI w I₀ v A := h
    obtain ⟨iv, vs', av, dv, ds, h1, h2, h3, h4, h5⟩ := hv2
    exact g_kind ok h1 q
  | pln ds nm =>
    have hv2 : PlnI w I₀ v ds nm := h
    obtain ⟨iv, vs', av, h1, h2, h3, h4⟩ := hv2
    exact g_kind ok h1 q
theorem ne_len {α : Type} {l : List α} {k : Nat} (h : l.length = k) (hk : 1 ≤ k) : l ≠ [] := fun e => by rw [e] at h; simp at h; omega
theorem c_bind_by (ok : a.Ok 9) (hw : a.w = w) {pv vs ps nv nvs ns wv tv} {e : Nat} {qs : List PQ} {I₀ : Led} (hp : LiI I₀ pv vs) (hps : PtsI w I₀ vs ps) (hn : LiI I₀ nv nvs) (hns : NasI nvs ns) (hnl : ns.length = ps.length) (hg : ∀ p ∈ ps, p.Gd e) (hm : anyMat ps = true) (hz : ps.length ≤ 20) (he : e ≤ 20) (he1 : 1 ≤ e)
    (hqs : qs = (kix ps ps.length).map (pq ps ns)) (hne : qs ≠ []) (hT : (bindBy e qs).cols.length ≤ 20)
    (q : ∀ r I', I ⊆ I' → MatI w I' r (bindBy e qs) → Q r M I') (s₀ : I₀ ⊆ I := by kqd_sub) : Ex a (call (.ref 586) [pv, nv, wv, tv]) m M I Q X := by
  have hl := hps.1
  have hks : ∀ k ∈ kix ps ps.length, ∃ p, ps[k]? = some p ∧ p.live = true := fun k h => (kix_mem h).2
  have hqlen : qs.length = (kix ps ps.length).length := by rw [hqs, List.length_map]
  have hat : ∀ (i k : Nat), (kix ps ps.length)[i]? = some k → ∃ p nm, ps[k]? = some p ∧ p.live = true ∧ p.Gd e ∧ ns[k]? = some nm ∧ qs[i]? = some (p, nm) ∧ k < ps.length := fun i k h => by
    obtain ⟨hk, p, hp1, hp2⟩ := kix_mem (List.mem_of_getElem? h)
    have hn1 : ns[k]? = some (ns[k]'(by omega)) := List.getElem?_eq_getElem (by omega)
    refine ⟨p, _, hp1, hp2, hg _ (List.mem_of_getElem? hp1), hn1, ?_, hk⟩
    rw [hqs, List.getElem?_map, h]
    simp only [Option.map_some, pq, List.getD_eq_getElem?_getD, hp1, hn1, Option.getD_some]
  generalize hks' : kix ps ps.length = ks at *
  refine .fz ?_
  refine' Ex_call (binds := [("parts", pv), ("names", nv), ("word", wv), ("notes", tv)]) ok ?ho ?hcd ?hb ?hk ?hnd ?hco ?hgen ?hkk ?_
  ktr_room
  intro b okb hwb fm
  kst_mem
  refine c_bound_extent (okb.le (by decide)) (hwb.trans hw) hp hps hg hm (by omega) (by omega) fun t1 I1 s1 => ?_
  kst_mem
  refine c_kept_places (okb.le (by decide)) (hwb.trans hw) hp hps hg (by omega) (by omega) fun kv I2 s2 hkv => ?_
  rw [hks'] at hkv
  obtain ⟨kvs, hk1, hk2, hk3⟩ := ix_list hkv
  have hkl : 1 ≤ kvs.length := by rw [hk2, ← hqlen]; exact List.length_pos_iff.mpr hne
  have hkl2 : kvs.length ≤ 20 := by rw [hk2, ← hks']; exact Nat.le_trans kix_le hz
  kst_mem
  refine l_len hk1 (by omega) fun t2 => ?_
  kst_mem
  rw [show ((kvs.length : Int) == 0) = false from beq_eq_false_iff_ne.mpr (by omega)]
  kst_mem
  refine c_note_recycling (I₀ := I2) (okb.le (by decide)) (hwb.trans hw) (hp.mono (by kqd_sub)) (hps.mono (by kqd_sub)) hg hkv hks (by omega) (by omega) fun I3 s3 => ?_
  kst_mem
  with_reducible refine' E_comp_list okb ?c1 ?c2 ?c3 ?_
  case c1 => exact ⟨rfl, rfl, rfl, rfl, by rw [fm.ce]; rfl⟩
  case c2 => rfl
  case c3 => exact fun _ => rfl
  kst_mem
  obtain ⟨l, cc, rfl, hl'⟩ := hk1
  let J_1 : Nat → List Value → Led → Led → Prop := fun i ys M₁ I₁ => M₁ = M ∧ PtsI w I₁ ys ((qs.map (·.1)).take i)
  refine ⟨l, kvs, cc, rfl, s3 hl', Nat.le_trans (by omega : kvs.length ≤ 1000) (by decide), J_1, ⟨rfl, rfl, fun i p h => by simp at h⟩, ?_, ?_⟩
  · rintro C i x ys M₁ I₁ hxi hI₁ ⟨rfl, hy⟩
    have hi : i < ks.length := by rw [← hk2]; exact (List.getElem?_eq_some_iff.mp hxi).1
    obtain ⟨t, ht⟩ := hk3 i _ (List.getElem?_eq_getElem hi)
    rw [hxi] at ht; cases ht
    obtain ⟨p, nm, g1, g2, g3, g4, g5, g6⟩ := hat i _ (List.getElem?_eq_getElem hi)
    generalize ks[i] = k at *
    obtain ⟨v, hv1, hv2⟩ := hps.2 k _ g1
    kst_mem
    refine l_item hp (by omega) (by omega) (by simpa using hv1) ⟨rfl, ?_⟩
    rw [List.take_add_one, List.getElem?_map, g5]
    exact (hy.mono (by kqd_sub)).snoc (hv2.mono (by kqd_sub))
  · rintro ys M₁ I₁ hI₁ ⟨rfl, hy⟩ D0 c0
    rw [hk2, ← hqlen, show (qs.map (·.1)).take qs.length = qs.map (·.1) from List.take_of_length_le (by simp)] at hy
    kst_mem
    kst_p
    have hlv : ∀ p ∈ qs.map (·.1), p.live = true := fun p h => by
      obtain ⟨x, hx, rfl⟩ := List.mem_map.mp h
      rw [hqs] at hx
      obtain ⟨k, hk, rfl⟩ := List.mem_map.mp hx
      obtain ⟨p, g1, g2⟩ := hks k hk
      show (ps.getD k .nul).live = true
      rw [List.getD_eq_getElem?_getD, g1]; exact g2
    refine c_joined_kind (I₀ := (D0, Li ys c0) :: I₁) (okb.le (by decide)) ⟨D0, c0, rfl, .head _⟩ (hy.mono (by kqd_sub)) hlv (by simpa using hne) (by rw [List.length_map, hqlen, ← hk2]; omega) fun I4 t4 s4 => ?_
    rw [List.map_map, show (Pt.kind ∘ fun x : PQ => x.1) = fun x : PQ => x.1.kind from rfl]
    generalize hK : kmax (qs.map fun x => x.1.kind) = K at *
    kst_mem
    refine ⟨Nat.le_of_ble_eq_true rfl, fun D1 => ?_⟩
    kst_mem
    refine ⟨Nat.le_of_ble_eq_true rfl, fun D2 => ?_⟩
    kst_mem
    rename_i tc
    have hC : ∀ g ∈ qs.map (fun q => ccols e K q.1), ∀ c ∈ g, c.length = e := fun g hg' c hc => by
      obtain ⟨x, hx, rfl⟩ := List.mem_map.mp hg'
      rw [hqs] at hx
      obtain ⟨k, hk, rfl⟩ := List.mem_map.mp hx
      obtain ⟨p, g1, g2⟩ := hks k hk
      refine ccols_len (k := K) (hg p (List.mem_of_getElem? g1)) c ?_
      have : (pq ps ns k).1 = p := by show ps.getD k .nul = p; rw [List.getD_eq_getElem?_getD, g1]; rfl
      rw [this] at hc; exact hc
    have hqm : ∀ x ∈ qs, x.1.Gd e ∧ x.1.live = true := fun x hx => by
      rw [hqs] at hx
      obtain ⟨k, hk, rfl⟩ := List.mem_map.mp hx
      obtain ⟨p, g1, g2⟩ := hks k hk
      have : (pq ps ns k).1 = p := by show ps.getD k .nul = p; rw [List.getD_eq_getElem?_getD, g1]; rfl
      rw [this]; exact ⟨hg p (List.mem_of_getElem? g1), g2⟩
    have hT' : (qs.map fun q => ccols e K q.1).flatten.length ≤ 20 := by rw [← hK]; exact hT
    have hH : ∀ i, ((qs.take i).map fun q => q.1.heads q.2).flatten.length ≤ 20 := fun i => by
      rw [flat_len2 (g := fun q : PQ => ccols e K q.1), List.map_take]
      · exact Nat.le_trans pre_len hT'
      · intro x hx
        obtain ⟨z1, z2⟩ := hqm x (List.mem_of_mem_take hx)
        show (x.1.heads x.2).length = (ccols e K x.1).length
        rw [heads_len z1 z2]; simp [ccols]
    with_reducible refine' X_for_list okb fm ?f1 ?f2 ?_
    case f1 => k_places
    case f2 => exact fun _ => rfl
    kst_mem
    refine ⟨l, kvs, cc, rfl, s4 (.tail _ (hI₁ (s3 hl'))), fun i m' M' I' => (m' "parts" = some pv ∧ m' "names" = some nv ∧ m' "extent" = some (.int (e : Int) t1) ∧ m' "kept" = some (.ref l) ∧ m' "kind" = some (.str K.s t4) ∧ m' "items" = some (.ref D1) ∧ m' "heads" = some (.ref D2)) ∧
      ∃ hs c2 ys c1 t, M' = (D2, Li hs c2) :: (D1, Li ys c1) :: M₁ ∧ StrsAre hs (((qs.take i).map fun q => q.1.heads q.2).flatten) ∧ DatAll I' ys ((qs.map fun q => ccols e K q.1).take i).flatten.flatten ∧ m' "count" = some (.int ((((qs.map fun q => ccols e K q.1).take i).flatten.length : Nat) : Int) t), ?_, ?_, ?_⟩
    · exact ⟨⟨by kp_flats, by kp_flats, by kp_flats, by kp_flats, by kp_flats, by kp_flats, by kp_flats⟩, [], 0, [], 0, tc, rfl, .nil, .nil, by kp_flats⟩
    · rintro i v m₁ M₂ I₂ hv' hI₂ ⟨⟨e1, e2, e3, e4, e5, e6, e7⟩, hs, c2, ys, c1, t5, rfl, hhs, hys, e8⟩
      have hi : i < ks.length := by rw [← hk2]; exact (List.getElem?_eq_some_iff.mp hv').1
      obtain ⟨t, ht⟩ := hk3 i _ (List.getElem?_eq_getElem hi)
      rw [hv'] at ht; cases ht
      obtain ⟨p, nm, g1, g2, g3, g4, g5, g6⟩ := hat i _ (List.getElem?_eq_getElem hi)
      generalize ks[i] = k at *
      obtain ⟨v, hv1, hv2⟩ := hps.2 k _ g1
      obtain ⟨nu, hn1, hn2⟩ := hns k nm g4
      have hgi : (qs.map fun q => ccols e K q.1)[i]? = some (ccols e K p) := by rw [List.getElem?_map, g5]; rfl
      have hnx := pre_next hgi
      kst_mem
      refine l_item hp (by omega) (by omega) (by simpa using hv1) ?_
      kst_mem
      with_reducible refine' X_for_list okb fm ?f1 ?f2 ?_
      case f1 => k_places
      case f2 => exact fun _ => rfl
      kst_mem
      refine c_part_columns (okb.le (by decide)) (hwb.trans hw) hv2 g3 g2 (by omega) fun u I5 s5 hu => ?_
      obtain ⟨us, hu1, hu2⟩ := dat_list hu
      obtain ⟨lu, cu, rfl, hlu⟩ := hu1
      refine ⟨lu, us, cu, rfl, hlu, fun j m' M' I' => (m' "parts" = some pv ∧ m' "names" = some nv ∧ m' "extent" = some (.int (e : Int) t1) ∧ m' "kept" = some (.ref l) ∧ m' "kind" = some (.str K.s t4) ∧ m' "items" = some (.ref D1) ∧ m' "heads" = some (.ref D2) ∧ m' "part" = some v ∧ m' "place" = some (.int (k : Int) t)) ∧
        ∃ ys c1 t, M' = (D2, Li hs c2) :: (D1, Li ys c1) :: M₁ ∧ DatAll I' ys (((qs.map fun q => ccols e K q.1).take i).flatten ++ (ccols e K p).take j).flatten ∧ m' "count" = some (.int (((((qs.map fun q => ccols e K q.1).take i).flatten ++ (ccols e K p).take j).length : Nat) : Int) t), ?_, ?_, ?_⟩
      · exact ⟨⟨by kp_flats, by kp_flats, by kp_flats, by kp_flats, by kp_flats, by kp_flats, by kp_flats, by kp_flats, by kp_flats⟩, ys, c1, t5, rfl, by simpa using hys.mono (sb (by kqd_sub)), by rw [List.take_zero, List.append_nil]; kp_flats⟩
      · rintro j x m₂ M₃ I₃ hx hI₃ ⟨⟨f1, f2, f3, f4, f5, f6, f7, f8, f9⟩, ys, c1, t5, rfl, hys, fc⟩
        have hjl : j < (p.cols e).length := by
          have := (List.getElem?_eq_some_iff.mp hx).1
          rw [hu2.length, List.length_map] at this; exact this
        have hcj : (p.cols e)[j]? = some (p.cols e)[j] := List.getElem?_eq_getElem hjl
        have hcm : (p.cols e)[j] ∈ p.cols e := List.getElem_mem hjl
        generalize (p.cols e)[j] = c at hcj hcm
        obtain ⟨x', hx1, hx2⟩ := DatAll.at hu2 (k := j) (d := .list c) (by rw [List.getElem?_map, hcj]; rfl)
        rw [hx] at hx1; cases hx1
        have hle : p.kind.o ≤ K.o := by rw [← hK]; exact kmax_ge (List.mem_map.mpr ⟨(p, nm), List.mem_of_getElem? g5, rfl⟩)
        have hcl : c.length = e := cols_len g3 c hcm
        have hcc : (ccols e K p)[j]? = some (c.map (cv p.kind K)) := by unfold ccols; rw [List.getElem?_map, hcj]; rfl
        have hpl : (((qs.map fun q => ccols e K q.1).take i).flatten ++ (ccols e K p).take j).length ≤ 20 := by
          have h1 := pre_len (L := qs.map fun q => ccols e K q.1) (i := i + 1)
          rw [hnx, List.length_append] at h1
          rw [List.length_append, List.length_take]
          omega
        have hyl : ys.length ≤ 400 := by
          rw [hys.length, flat_len (n := e)]
          · exact Nat.mul_le_mul hpl he
          · intro c' hc'
            rcases List.mem_append.mp hc' with h | h
            · obtain ⟨g, hg1, hg2⟩ := List.mem_flatten.mp h
              exact hC g (List.mem_of_mem_take hg1) c' hg2
            · exact hC _ (List.mem_of_getElem? hgi) c' (List.mem_of_mem_take h)
        kst_mem
        refine E_extend _ ?_
        kst_mem
        refine ⟨D1, ys, c1, rfl, .ofM (.tail _ (.head _)), ?_⟩
        kst_mem
        refine g_pkind okb hv2 g2 fun t6 => ?_
        kst_mem
        refine c_column_as (okb.le (by decide)) (hwb.trans hw) hle (hx2.mono (sb hI₃)) (cols_it g3 c hcm) (by omega) fun u6 I6 s6 hu6 => ?_
        kst_mem
        obtain ⟨vs6, ⟨l6, c6, rfl, hl6⟩, hd6⟩ := dat_list hu6
        have hl7 := hd6.length
        rw [List.length_map, hcl] at hl7
        refine ⟨l6, vs6, c6, ys, c1, _, rfl, .ofI hl6, ne_len hl7 he1, .tail .head, Nat.le_trans (by omega : ys.length + vs6.length ≤ 1000) (by decide), ?_⟩
        kst_mem
        rename_i t8
        refine ⟨⟨by kp_flats, by kp_flats, by kp_flats, by kp_flats, by kp_flats, by kp_flats, by kp_flats, by kp_flats, by kp_flats⟩, _, _, t8, rfl, ?_, ?_⟩
        · rw [List.take_add_one, hcc, ← List.append_assoc, List.flatten_append]
          simpa using (hys.mono (sb (by kqd_sub))).append hd6
        · have e9 : (((((qs.map fun q => ccols e K q.1).take i).flatten ++ (ccols e K p).take (j + 1)).length : Nat) : Int) = (((((qs.map fun q => ccols e K q.1).take i).flatten ++ (ccols e K p).take j).length : Nat) : Int) + 1 := by
            rw [List.take_add_one, hcc, ← List.append_assoc, List.length_append]; rfl
          rw [e9]; exact upd_at
      · rintro m₂ M₃ I₃ hI₃ ⟨⟨f1, f2, f3, f4, f5, f6, f7, f8, f9⟩, ys, c1, t5, rfl, hys, fc⟩
        have hul : us.length = (ccols e K p).length := by rw [hu2.length, List.length_map]; simp [ccols]
        rw [hul, List.take_length, ← hnx] at hys fc
        have hhn : ((qs.take (i + 1)).map fun q => q.1.heads q.2).flatten = ((qs.take i).map fun q => q.1.heads q.2).flatten ++ p.heads nm := by
          rw [List.take_add_one, g5, List.map_append, List.flatten_append]; simp
        have hh1 : (p.heads nm).length = (p.cols e).length := heads_len g3 g2
        have hh2 : hs.length + (p.heads nm).length ≤ 1000 := by
          have h1 := hH (i + 1)
          rw [hhn, List.length_append] at h1
          rw [hhs.length]; omega
        kst_mem
        refine E_extend _ ?_
        kst_mem
        refine ⟨D2, hs, c2, rfl, .ofM (.head _), ?_⟩
        kst_mem
        refine l_item hn (by omega) (by omega) (by simpa using hn1) ?_
        kst_mem
        refine c_part_heads (okb.le (by decide)) (hwb.trans hw) hv2 g3 g2 hn2 fun u6 I6 s6 hu6 => ?_
        kst_mem
        obtain ⟨vs6, ⟨l6, c6, rfl, hl6⟩, hd6⟩ := hu6
        have hl7 := hd6.length
        refine ⟨l6, vs6, c6, hs, c2, _, rfl, .ofI hl6, ne_len (hl7.trans hh1) (cols_pos g3 g2), .head, Nat.le_trans (by omega : hs.length + vs6.length ≤ 1000) (by decide), ?_⟩
        kst_mem
        refine ⟨⟨by kp_flats, by kp_flats, by kp_flats, by kp_flats, by kp_flats, by kp_flats, by kp_flats⟩, _, _, _, _, t5, rfl, ?_, hys.mono (sb (by kqd_sub)), fc⟩
        rw [hhn]
        exact strsAre_append hhs hd6
    · rintro m₁ M₂ I₂ hI₂ ⟨⟨e1, e2, e3, e4, e5, e6, e7⟩, hs, c2, ys, c1, t5, rfl, hhs, hys, e8⟩
      rw [hk2, ← hqlen, List.take_length] at hhs
      rw [hk2, ← hqlen, show (qs.map fun q => ccols e K q.1).take qs.length = qs.map fun q => ccols e K q.1 from List.take_of_length_le (by simp)] at hys e8
      have hcl : hs.length ≤ 20 := by
        have h1 := hH qs.length
        rw [List.take_length] at h1
        rw [hhs.length]; exact h1
      kst_mem
      with_reducible refine' E_comp_if okb pS ?c1 ?c2 ?c3 ?c4 ?c5 ?c6 ?c7 ?_
      case c1 => rfl
      case c2 => rfl
      case c3 => rfl
      case c4 => decide +kernel
      case c5 => rfl
      case c6 => rfl
      case c7 => exact fun _ => rfl
      kst_mem
      refine ⟨D2, hs, c2, rfl, .ofM (.head _), Nat.le_trans (by omega : hs.length ≤ 1000) (by decide), ?_, fun D o ho => ?_⟩
      · intro v hv
        obtain ⟨z, t, rfl⟩ := hhs.all v hv
        exact test_nestr rfl rfl rfl z t
      kst_mem
      have hfl : (hs.filter pS).length ≤ 20 := Nat.le_trans (List.length_filter_le _ _) hcl
      refine len_any (.ofI (.head _)) ho (by omega) fun _ => ?_
      kst_mem
      rw [pS_any hhs]
      generalize hB : ((qs.map fun q => q.1.heads q.2).flatten.any (· != ("" : Str))) = B
      refine c_bound_row_names (okb.le (by decide)) (hwb.trans hw) (hp.mono (by kqd_sub)) (hps.mono (by kqd_sub)) hg (hkv.mono (sb (by kqd_sub))) hks (by omega) (by omega) (fun rv I6 s6 hrv => ?_) (List.Subset.refl _)
      kst_mem
      refine ⟨Nat.le_of_ble_eq_true rfl, fun D3 => ?_⟩
      kst_mem
      kst_p
      kst_p
      kst_p
      kst_mem
      refine T_plain ?_
      kst_mem
      have hrn : ks.findSome? (fun k => (ps[k]?).bind Pt.rown) = (bindBy e qs).rn := by
        show _ = qs.findSome? fun q => q.1.rown
        rw [hqs, List.findSome?_map]
        congr 1
        funext k
        show _ = (ps.getD k .nul).rown
        rw [List.getD_eq_getElem?_getD]
        cases ps[k]? <;> rfl
      have zr : Zn (bindBy e qs).rn := fun ms h => by
        obtain ⟨x, hx, hx2⟩ := List.exists_of_findSome?_eq_some (show qs.findSome? (fun q => q.1.rown) = some ms from h)
        obtain ⟨z1, z2⟩ := hqm x hx
        generalize x.1 = p at hx2 z1
        cases p with
        | nul => cases hx2
        | mat A => rw [z1.1.rn ms hx2, z1.2]; omega
        | pln ds nm => rw [z1.2.2.2.1 ms hx2]; omega
      have zc : Zn (bindBy e qs).cn := fun ms h => by
        have h : (if ((qs.map fun q => q.1.heads q.2).flatten.any (· != ("" : Str))) then some (qs.map fun q => q.1.heads q.2).flatten else none) = some ms := h
        have h1 := hH qs.length
        rw [List.take_length] at h1
        split at h
        · cases h; omega
        · cases h
      have fin : ∀ u1, NmI ((D1, Li ys c1) :: (D2, Li hs c2) :: (D3, Li [Value.int (e : Int) t1, Value.int (((qs.map fun q => ccols e K q.1).flatten.length : Nat) : Int) t5] 0) :: I6) u1 (bindBy e qs).cn →
          Ex b (call (Value.ref 522) [Value.str K.s t4, Value.ref D1, Value.ref D3, rv, u1]) (upd (upd m₁ "named" (Value.bool B)) "row_names" rv) M₁ ((D1, Li ys c1) :: (D2, Li hs c2) :: (D3, Li [Value.int (e : Int) t1, Value.int (((qs.map fun q => ccols e K q.1).flatten.length : Nat) : Int) t5] 0) :: I6)
            (fun v M' I' => ∃ M'' I'', Fz M' I' M'' I'' ∧ Q v M'' I'') noX := fun u1 hu1 => by
        subst hK
        have hcols : DatAll I6 ys (bindBy e qs).cols.flatten := hys.mono (sb (by kqd_sub))
        refine c_new_matrix (A := bindBy e qs) (I₀ := (D1, Li ys c1) :: (D2, Li hs c2) :: (D3, Li [Value.int (e : Int) t1, Value.int (((qs.map fun q => ccols e (kmax (qs.map fun x => x.1.kind)) q.1).flatten.length : Nat) : Int) t5] 0) :: I6) (kt := t4) (okb.le (by decide)) (hwb.trans hw) (vs := ys) (t1 := t1) (t2 := t5) ⟨D1, c1, rfl, .head _⟩ (hcols.mono (sb (by kqd_sub))) ⟨D3, 0, rfl, .tail _ (.tail _ (.head _))⟩ (NmI.mono (hrn ▸ hrv) (by kqd_sub)) hu1 zr zc fun r I7 s7 hr => ?_
        exact ⟨_, _, .refl, q _ _ (by kqd_sub) hr⟩
      cases B with
      | true =>
        kst_mem
        exact fin _ (by rw [show (bindBy e qs).cn = some _ from if_pos hB]; exact ⟨hs, ⟨D2, c2, rfl, .tail _ (.head _)⟩, hhs⟩)
      | false =>
        kst_mem
        exact fin _ (by rw [show (bindBy e qs).cn = none from if_neg (by rw [hB]; exact Bool.false_ne_true)]; rfl)
end
end
section
theorem cv_it {k k' : Kd} (h : k.o ≤ k'.o) {d : Dat} (hd : ItK k d) : ItK k' (cv k k' d) := by
  cases k <;> cases k' <;> first | (simp [Kd.o] at h; done) | exact hd | skip
  all_goals
    rcases hd with rfl | ⟨n, rfl⟩
    · exact .inl rfl
    · exact .inr ⟨n, .inr rfl⟩
theorem bindBy_gd {e : Nat} {qs : List PQ} (hne : qs ≠ []) (hq : ∀ x ∈ qs, x.1.Gd e ∧ x.1.live = true) (he : e ≤ 20) (he1 : 1 ≤ e) (hT : (bindBy e qs).cols.length ≤ 20) : (bindBy e qs).Gd := by
  have hC : ∀ c ∈ (bindBy e qs).cols, c.length = e := fun c hc => by
    obtain ⟨g, hg, hc⟩ := List.mem_flatten.mp hc
    obtain ⟨x, hx, rfl⟩ := List.mem_map.mp hg
    exact ccols_len (k := kmax (qs.map (·.1.kind))) (hq x hx).1 c hc
  have hH : (qs.map fun q => q.1.heads q.2).flatten.length = (bindBy e qs).cols.length := flat_len2 fun x hx => by
    show (x.1.heads x.2).length = (ccols e _ x.1).length
    rw [heads_len (hq x hx).1 (hq x hx).2]; simp [ccols]
  have hrn : ∀ ms, (bindBy e qs).rn = some ms → ms.length = e := fun ms h => by
    obtain ⟨x, hx, hx2⟩ := List.exists_of_findSome?_eq_some (show qs.findSome? (fun q => q.1.rown) = some ms from h)
    obtain ⟨z1, z2⟩ := hq x hx
    generalize x.1 = p at hx2 z1
    cases p with
    | nul => cases hx2
    | mat A => rw [z1.1.rn ms hx2, z1.2]
    | pln ds nm => exact z1.2.2.2.1 ms hx2
  have hcn : ∀ ms, (bindBy e qs).cn = some ms → ms.length = (bindBy e qs).cols.length := fun ms h => by
    have h : (if ((qs.map fun q => q.1.heads q.2).flatten.any (· != ("" : Str))) then some (qs.map fun q => q.1.heads q.2).flatten else none) = some ms := h
    split at h
    · cases h; exact hH
    · cases h
  refine ⟨⟨hC, he, hT, fun ms h => by rw [hrn ms h]; omega, fun ms h => by rw [hcn ms h]; omega⟩, he1, ?_, hrn, hcn, ?_⟩
  · rw [← hH]
    cases qs with
    | nil => exact absurd rfl hne
    | cons x r =>
      rw [List.map_cons, List.flatten_cons, List.length_append, heads_len (hq x (.head _)).1 (hq x (.head _)).2]
      have := cols_pos (hq x (.head _)).1 (hq x (.head _)).2
      omega
  · intro c hc d hd
    obtain ⟨g, hg, hc⟩ := List.mem_flatten.mp hc
    obtain ⟨x, hx, rfl⟩ := List.mem_map.mp hg
    obtain ⟨c', hc', rfl⟩ := List.mem_map.mp hc
    obtain ⟨d', hd', rfl⟩ := List.mem_map.mp hd
    exact cv_it (kmax_ge (List.mem_map.mpr ⟨x, hx, rfl⟩)) (cols_it (hq x hx).1 c' hc' d' hd')
theorem Mt.Gd.t {A : Mt} (h : A.Gd) : A.t.Gd := by
  refine ⟨h.wf.t, h.c1, by show 1 ≤ (tr _ _ _).length; rw [tr_len]; exact h.n1, h.cn, fun ns e => by show _ = (tr _ _ _).length; rw [tr_len]; exact h.rn ns e, ?_⟩
  intro c hc d hd
  obtain ⟨i, hi, rfl⟩ := List.mem_map.mp hc
  obtain ⟨c', hc', rfl⟩ := List.mem_map.mp hd
  have hi : i < c'.length := by rw [h.wf.col c' hc']; exact List.mem_range.mp hi
  rw [List.getD_eq_getElem?_getD, List.getElem?_eq_getElem hi]
  exact h.it c' hc' _ (List.getElem_mem hi)
noncomputable def Pt.turn : Pt → Pt | .mat A => .mat A.t | p => p
noncomputable def bindRows (e : Nat) (qs : List PQ) : Mt := (bindBy e qs).t
theorem anyMat_turn {ps : List Pt} : anyMat (ps.map Pt.turn) = anyMat ps := by
  unfold anyMat
  rw [List.any_map]
  congr 1
  funext p
  cases p <;> rfl
section
variable {X : Post Value} {a : Act} {m : Map} {M I : Led} {n : Nat} {Q : Post Value} {w : World}
theorem c_bind_cols (ok : a.Ok 10) (hw : a.w = w) {pv vs ps nv nvs ns tv} {e : Nat} {qs : List PQ} {I₀ : Led} (hp : LiI I₀ pv vs) (hps : PtsI w I₀ vs ps) (hn : LiI I₀ nv nvs) (hns : NasI nvs ns) (hnl : ns.length = ps.length) (hg : ∀ p ∈ ps, p.Gd e) (hm : anyMat ps = true) (hz : ps.length ≤ 20) (he : e ≤ 20) (he1 : 1 ≤ e)
    (hqs : qs = (kix ps ps.length).map (pq ps ns)) (hne : qs ≠ []) (hT : (bindBy e qs).cols.length ≤ 20)
    (q : ∀ r I', I ⊆ I' → MatI w I' r (bindBy e qs) → Q r M I') (s₀ : I₀ ⊆ I := by kqd_sub) : Ex a (call (.ref 600) [pv, nv, tv]) m M I Q X := by
  refine' Ex_call (binds := [("parts", pv), ("names", nv), ("notes", tv)]) ok ?ho ?hcd ?hb ?hk ?hnd ?hco ?hgen ?hkk ?_
  ktr_room
  intro b okb hwb fm
  kst_mem
  exact c_bind_by (okb.le (by decide)) (hwb.trans hw) hp hps hn hns hnl hg hm hz he he1 hqs hne hT fun r I1 s1 hr => q _ _ (by kqd_sub) hr
theorem c_bind_rows (ok : a.Ok 10) (hw : a.w = w) {pv vs ps nv nvs ns tv} {e : Nat} {qs : List PQ} {I₀ : Led} (hp : LiI I₀ pv vs) (hps : PtsI w I₀ vs ps) (hn : LiI I₀ nv nvs) (hns : NasI nvs ns) (hnl : ns.length = ps.length) (hg : ∀ p ∈ ps, p.turn.Gd e) (hmw : ∀ A, .mat A ∈ ps → A.Wf) (hm : anyMat ps = true) (hz : ps.length ≤ 20) (he : e ≤ 20) (he1 : 1 ≤ e)
    (hqs : qs = (kix (ps.map Pt.turn) ps.length).map (pq (ps.map Pt.turn) ns)) (hne : qs ≠ []) (hT : (bindBy e qs).cols.length ≤ 20) (hqm : ∀ x ∈ qs, x.1.Gd e ∧ x.1.live = true)
    (q : ∀ r I', I ⊆ I' → MatI w I' r (bindRows e qs) → Q r M I') (s₀ : I₀ ⊆ I := by kqd_sub) : Ex a (call (.ref 607) [pv, nv, tv]) m M I Q X := by
  have hl := hps.1
  refine .fz ?_
  refine' Ex_call (binds := [("parts", pv), ("names", nv), ("notes", tv)]) ok ?ho ?hcd ?hb ?hk ?hnd ?hco ?hgen ?hkk ?_
  ktr_room
  intro b okb hwb fm
  kst_mem
  refine ⟨Nat.le_of_ble_eq_true rfl, fun D => ?_⟩
  kst_mem
  with_reducible refine' X_for_list okb fm ?f1 ?f2 ?_
  case f1 => k_places
  case f2 => exact fun _ => rfl
  kst_mem
  obtain ⟨l, c, rfl, hl'⟩ := hp.mono s₀
  let J_1 : Nat → Map → Led → Led → Prop := fun i m' M' I' => (m' "names" = some nv ∧ m' "notes" = some tv ∧ m' "turned" = some (.ref D)) ∧ ∃ ys c, M' = (D, Li ys c) :: M ∧ PtsI w I' ys ((ps.map Pt.turn).take i)
  refine ⟨l, _, c, rfl, hl', J_1, ⟨⟨by kp_flats, by kp_flats, by kp_flats⟩, [], 0, rfl, rfl, fun i p h => by simp at h⟩, ?_, ?_⟩
  · rintro i v m₁ M₁ I₁ hv' hI₁ ⟨⟨e1, e2, e3⟩, ys, c, rfl, hy⟩
    have hi : i < ps.length := by rw [← hl]; exact (List.getElem?_eq_some_iff.mp hv').1
    have hpi : ps[i]? = some ps[i] := List.getElem?_eq_getElem hi
    obtain ⟨v', hv1, hv2⟩ := hps.2 i _ hpi
    rw [hv'] at hv1; cases hv1
    have hyl : ys.length ≤ 20 := by have := hy.1; rw [List.length_take, List.length_map] at this; omega
    have nx : ∀ u I', PtsI w I' ys ((ps.map Pt.turn).take i) → PtI w I' u (ps[i]).turn → PtsI w I' (ys ++ [u]) ((ps.map Pt.turn).take (i + 1)) := fun u I' h1 h2 => by
      rw [List.take_add_one, List.getElem?_map, hpi]
      exact h1.snoc h2
    have hmem := List.getElem_mem hi
    generalize ps[i] = p at *
    kst_mem
    refine E_append _ ?_
    kst_mem
    refine ⟨D, ys, c, rfl, .ofM (.head _), ?_⟩
    kst_mem
    cases p with
    | nul =>
      refine g_nkind okb hv2 fun _ => ?_
      kst_mem
      refine ⟨_, _, _, .head, Nat.le_trans (by omega : ys.length ≤ 1000) (by decide), ?_⟩
      kst_mem
      exact ⟨⟨by kp_flats, by kp_flats, by kp_flats⟩, _, _, rfl, nx _ _ (hy.mono (by kqd_sub)) (hv2.mono (by kqd_sub))⟩
    | mat A =>
      have hv2 : MatI w I₀ v A := hv2
      have hv0 := hv2
      obtain ⟨iv, vs', av, dv, ds, h1, h2, h3, h4, h5⟩ := hv0
      refine g_kind okb h1 fun _ => ?_
      kst_mem
      rw [show (A.kind.s != ("NULL" : Str)) = true by cases A.kind <;> decide +kernel]
      kst_mem
      refine T_plain ?_
      kst_mem
      refine c_is_matrix (okb.le (by decide)) (hwb.trans hw) hv2 ?_
      kst_mem
      refine c_transpose (okb.le (by decide)) (hwb.trans hw) hv2 (hmw A hmem) fun r I2 s2 hr => ?_
      kst_mem
      refine ⟨_, _, _, .head, Nat.le_trans (by omega : ys.length ≤ 1000) (by decide), ?_⟩
      kst_mem
      exact ⟨⟨by kp_flats, by kp_flats, by kp_flats⟩, _, _, rfl, nx _ _ (hy.mono (by kqd_sub)) hr⟩
    | pln ds nm =>
      have hv2 : PlnI w I₀ v ds nm := hv2
      have hv0 := hv2
      obtain ⟨iv, vs', av, h1, h2, h3, h4⟩ := hv0
      refine g_kind okb h1 fun _ => ?_
      kst_mem
      refine T_plain ?_
      kst_mem
      refine c_is_matrix_no (okb.le (by decide)) (hwb.trans hw) hv2 ?_
      kst_mem
      refine ⟨_, _, _, .head, Nat.le_trans (by omega : ys.length ≤ 1000) (by decide), ?_⟩
      kst_mem
      exact ⟨⟨by kp_flats, by kp_flats, by kp_flats⟩, _, _, rfl, nx _ _ (hy.mono (by kqd_sub)) (PlnI.mono hv2 (by kqd_sub))⟩
  · rintro m₁ M₁ I₁ hI₁ ⟨⟨e1, e2, e3⟩, ys, c, rfl, hy⟩
    rw [hl, show (ps.map Pt.turn).take ps.length = ps.map Pt.turn from List.take_of_length_le (by simp)] at hy
    kst_mem
    kst_p
    kst_mem
    refine c_bind_by (I₀ := (D, Li ys c) :: I₁) (okb.le (by decide)) (hwb.trans hw) ⟨D, c, rfl, .head _⟩ (hy.mono (by kqd_sub)) (hn.mono (by kqd_sub)) hns (by rw [List.length_map]; exact hnl) (fun p h => by obtain ⟨p', h', rfl⟩ := List.mem_map.mp h; exact hg p' h') (by rw [anyMat_turn]; exact hm) (by simpa using hz) he he1 (by rw [List.length_map]; exact hqs) hne hT fun r I2 s2 hr => ?_
    have gd := bindBy_gd hne hqm he he1 hT
    kst_mem
    refine g_pkind (p := .mat (bindBy e qs)) okb hr rfl fun _ => ?_
    kst_mem
    rw [show ((Pt.mat (bindBy e qs)).kind.s == ("NULL" : Str)) = false by cases (Pt.mat (bindBy e qs)).kind <;> decide +kernel]
    kst_mem
    refine c_transpose (okb.le (by decide)) (hwb.trans hw) hr gd.wf fun r' I3 s3 hr' => ?_
    exact ⟨_, _, .refl, q _ _ (by kqd_sub) hr'⟩
end
end
section
/-- where one object of the ledger lies -/
inductive Spot (d : Addr) : (Obj → Led) → Prop
  | head {r} : Spot d (fun o => (d, o) :: r)
  | tail {p f} : Spot d f → Spot d (fun o => p :: f o)
theorem Spot.upd {d : Addr} {f : Obj → Led} (h : Spot d f) (o o' : Obj) : UpdM d o o' (f o) (f o') := by
  induction h with
  | head => exact .head
  | tail _ ih => exact .tail ih
inductive CaskO (w : World) (I : Led) (o : Obj) (n : Nat) : Prop
  | mk (cv : Value) (cvs : List Value) (lap rest : Nat) (t1 t2 : Tok) (h1 : o.IsDictOf (SK w) [("cells", cv), ("lap", .int (lap : Nat) t1), ("rest", .int (rest : Nat) t2)]) (h2 : LiI I cv cvs) (h3 : cvs ≠ []) (h4 : cvs.length ≤ 40) (h5 : ∀ v ∈ cvs, ∃ i t, v = .int i t) (h6 : lap ≤ n) (h7 : rest < 10 ^ 54)
theorem CaskO.mono {w I I' o n} (h : CaskO w I o n) (s : I ⊆ I') : CaskO w I' o n := by
  obtain ⟨cv, cvs, lap, rest, t1, t2, h1, h2, h3, h4, h5, h6, h7⟩ := h
  exact ⟨cv, cvs, lap, rest, t1, t2, h1, h2.mono s, h3, h4, h5, h6, h7⟩
theorem CaskO.le {w I o n n'} (h : CaskO w I o n) (s : n ≤ n') : CaskO w I o n' := by
  obtain ⟨cv, cvs, lap, rest, t1, t2, h1, h2, h3, h4, h5, h6, h7⟩ := h
  exact ⟨cv, cvs, lap, rest, t1, t2, h1, h2, h3, h4, h5, Nat.le_trans h6 s, h7⟩
section
variable {X : Post Value} {a : Act} {m : Map} {M I : Led} {n : Nat} {Q : Post Value} {w : World}
theorem fmod_nat (x y : Nat) : Int.fmod (x : Int) (y : Int) = ((x % y : Nat) : Int) := by
  rw [Int.fmod_eq_emod_of_nonneg _ (by omega)]; simp
theorem fdiv_nat (x y : Nat) : Int.fdiv (x : Int) (y : Int) = ((x / y : Nat) : Int) := by
  rw [Int.fdiv_eq_ediv_of_nonneg _ (by omega)]; simp
theorem fmod_is {c : Int} {k : Nat} (hk : 0 < k) : ∃ r : Nat, Int.fmod c (k : Int) = (r : Int) ∧ r < k := by
  have h1 := Int.fmod_nonneg_of_pos c (b := (k : Int)) (by omega)
  have h2 := Int.fmod_lt_of_pos c (b := (k : Int)) (by omega)
  exact ⟨(Int.fmod c k).toNat, by omega, by omega⟩
theorem k_item {M' : Obj → Led} {d o kvs x t u} {e i : Expr} (hw : a.w = w) (S : Spot d M') (ho : o.IsDictOf (SK w) kvs) (hx : valueAt kvs x = some u) (q : Q u (M' o) I)
    (hs : ∀ d, subscripted i false (.ref d) (.str x t) = operate [.ref d, .str x t] (getItem (.ref d) (.str x t)) := by intro _; rfl) : Ex a (subscriptTail e i (.ref d) (.str x t)) m (M' o) I Q X := by
  subst hw
  exact dict_item (.ofM (S.upd o o).mem) ho hx q (hs d)
theorem k_set {U₀ : Post Unit} {M' : Obj → Led} {d o kvs x t v} (hw : a.w = w) (S : Spot d M') (ho : o.IsDictOf (SK w) kvs) (hz : kvs.length ≤ 1000) (q : ∀ o', o'.IsDictOf (SK w) (stored kvs x v) → U₀ () (M' o') I) : Ex a (setItem (.ref d) (.str x t) v) m (M' o) I U₀ X := by
  subst hw
  exact dict_set ho (fun o' => S.upd o o') (Nat.le_trans hz (by decide)) q
theorem c_next (ok : a.Ok 1) (hw : a.w = w) {d o tw} {n ways : Nat} (M' : Obj → Led) (S : Spot d M') {I₀ : Led} (hc : CaskO w I₀ o n) (hn : n ≤ 1000) (hw1 : 1 ≤ ways) (hw2 : ways ≤ 1000)
    (q : ∀ (g : Nat) t o' I', I ⊆ I' → CaskO w I' o' (n + 1) → g < ways → Q (.int g t) (M' o') I') (s₀ : I₀ ⊆ I := by kqd_sub) : Ex a (call (.ref 614) [.ref d, .int (ways : Int) tw]) m (M' o) I Q X := by
  obtain ⟨cv, cvs, lap, rest, t1, t2, h1, h2, h3, h4, h5, h6, h7⟩ := hc
  have hpos : 0 < cvs.length := List.length_pos_iff.mpr h3
  refine' Ex_call (binds := [("cask", .ref d), ("ways", .int (ways : Int) tw)]) ok ?ho ?hcd ?hb ?hk ?hnd ?hco ?hgen ?hkk ?_
  ktr_room
  intro b okb hwb fm
  obtain ⟨b1, hb1⟩ : ∃ b1, b1 = decide ((rest : Int) < 131072) := ⟨_, rfl⟩
  kst_mem
  refine k_item (hwb.trans hw) S h1 rfl ?_
  iterate 4 isplit
  rw [← hb1]
  kst_mem
  cases b1 with
  | true =>
    kst_mem
    refine k_item (hwb.trans hw) S h1 rfl ?_
    kst_mem
    refine k_set (hwb.trans hw) S h1 (by simp) fun o1 ho1 => ?_
    obtain ⟨tl, ho1⟩ : ∃ tl, o1.IsDictOf (SK w) [("cells", cv), ("lap", .int ((lap : Int) + 1) tl), ("rest", .int (rest : Nat) t2)] := ⟨_, ho1⟩
    kst_mem
    refine k_item (hwb.trans hw) S ho1 rfl ?_
    kst_mem
    refine k_item (hwb.trans hw) S ho1 rfl ?_
    kst_mem
    refine l_len h2 (by omega) fun t5 => ?_
    kst_mem
    refine mod_ii (by omega) fun t6 => ?_
    kst_mem
    have em : Int.fmod (lap : Int) (cvs.length : Int) = ((lap % cvs.length : Nat) : Int) := by
      rw [Int.fmod_eq_emod_of_nonneg _ (by omega)]; simp
    rw [em]
    have hj : lap % cvs.length < cvs.length := Nat.mod_lt _ hpos
    generalize lap % cvs.length = j at hj
    obtain ⟨cell, tc, hcell⟩ := h5 _ (List.getElem_mem hj)
    obtain ⟨b2, hb2⟩ : ∃ b2, b2 = decide ((10 : Int) ^ 18 ≤ cell) := ⟨_, rfl⟩
    refine l_item h2 (by omega) (by omega) (by simp only [Int.toNat_natCast]; rw [List.getElem?_eq_getElem hj, hcell]) ?_
    kst_mem
    refine k_item (hwb.trans hw) S ho1 rfl ?_
    kst_mem
    refine l_len h2 (by omega) fun t5 => ?_
    kst_mem
    obtain ⟨b3, hb3⟩ : ∃ b3, b3 = decide ((lap : Int) < (cvs.length : Int)) := ⟨_, rfl⟩
    rw [← hb3]
    cases b3 with
    | true =>
      kst_mem
      refine pow_ii (by decide) (by decide +kernel) fun t8 => ?_
      isplit
      refine ge_ii ?_
      rw [show (10 : Int) ^ Int.toNat 18 = 10 ^ 18 from rfl, ← hb2]
      kst_mem
      cases b2 with
      | true =>
        kst_mem
        refine pow_ii (by decide) (by decide +kernel) fun t9 => ?_
        isplit
        refine mod_ii (by decide +kernel) fun t10 => ?_
        obtain ⟨r, hr1, hr2⟩ : ∃ r : Nat, Int.fmod cell ((10 : Int) ^ Int.toNat 54) = (r : Int) ∧ r < 10 ^ 54 := fmod_is (k := 10 ^ 54) (by decide +kernel)
        rw [hr1]
        kst_mem
        refine k_set (hwb.trans hw) S ho1 (by simp) fun o2 ho2 => ?_
        replace ho2 : o2.IsDictOf (SK w) [("cells", cv), ("lap", .int ((lap + 1 : Nat) : Int) tl), ("rest", .int (r : Nat) t10)] := ho2
        kst_mem
        refine k_item (hwb.trans hw) S ho2 rfl ?_
        kst_mem
        refine mod_ii (by omega) fun t21 => ?_
        kst_mem
        refine k_item (hwb.trans hw) S ho2 rfl ?_
        kst_mem
        refine fdiv_ii (by omega) (PyProof.noPylong_small (by omega)) fun t22 => ?_
        kst_mem
        refine k_set (hwb.trans hw) S ho2 (by simp) fun o9 ho9 => ?_
        kst_mem
        rw [fmod_nat]
        refine q _ _ _ _ (by kqd_sub) ⟨cv, cvs, lap + 1, r / ways, tl, t22, ?_, h2.mono (by kqd_sub), h3, h4, h5, by omega, Nat.lt_of_le_of_lt (Nat.div_le_self _ _) hr2⟩ (Nat.mod_lt _ (by omega))
        rw [fdiv_nat] at ho9
        exact ho9
      | false =>
        kst_mem
        refine mod_ii (by decide) fun t9 => ?_
        obtain ⟨r, hr1, hr2⟩ : ∃ r : Nat, Int.fmod cell 10000000000037 = (r : Int) ∧ r < 10000000000037 := fmod_is (k := 10000000000037) (by decide +kernel)
        rw [hr1]
        isplit
        isplit
        isplit
        isplit
        isplit
        isplit
        refine mul_ii (small_mul (by decide +kernel) (by decide +kernel) (by omega) (by omega)) fun t10 => ?_
        kst_mem
        have emx : ((r : Int) + 613 * (lap : Int) + 41) = ((r + 613 * lap + 41 : Nat) : Int) := by push_cast; rfl
        rw [emx]
        have hmx : r + 613 * lap + 41 < 2 ^ 60 := by omega
        generalize r + 613 * lap + 41 = mx at hmx
        refine mul_ii (IntMulOk.of_right (by decide +kernel)) fun t11 => ?_
        kst_mem
        refine mul_ii (small_mul (by omega) (by omega) (by omega) (by omega)) fun t12 => ?_
        kst_mem
        refine mul_ii (y := 3) (IntMulOk.of_right (by decide +kernel)) fun t13 => ?_
        kst_mem
        refine mod_ii (by decide +kernel) fun t14 => ?_
        obtain ⟨r2, hr3, hr4⟩ : ∃ r2 : Nat, Int.fmod ((mx : Int) * 3935559000370003845 + (mx : Int) * (mx : Int) * 3) 2305843009213693973 = (r2 : Int) ∧ r2 < 2305843009213693973 := fmod_is (k := 2305843009213693973) (by decide +kernel)
        rw [hr3]
        kst_mem
        refine k_set (hwb.trans hw) S ho1 (by simp) fun o2 ho2 => ?_
        replace ho2 : o2.IsDictOf (SK w) [("cells", cv), ("lap", .int ((lap + 1 : Nat) : Int) tl), ("rest", .int (r2 : Nat) t14)] := ho2
        kst_mem
        refine k_item (hwb.trans hw) S ho2 rfl ?_
        kst_mem
        refine mod_ii (by omega) fun t21 => ?_
        kst_mem
        refine k_item (hwb.trans hw) S ho2 rfl ?_
        kst_mem
        refine fdiv_ii (by omega) (PyProof.noPylong_small (by omega)) fun t22 => ?_
        kst_mem
        refine k_set (hwb.trans hw) S ho2 (by simp) fun o9 ho9 => ?_
        kst_mem
        rw [fmod_nat]
        refine q _ _ _ _ (by kqd_sub) ⟨cv, cvs, lap + 1, r2 / ways, tl, t22, ?_, h2.mono (by kqd_sub), h3, h4, h5, by omega, Nat.lt_of_le_of_lt (Nat.div_le_self _ _) (by omega)⟩ (Nat.mod_lt _ (by omega))
        rw [fdiv_nat] at ho9
        exact ho9
    | false =>
      kst_mem
      refine mod_ii (by decide) fun t9 => ?_
      obtain ⟨r, hr1, hr2⟩ : ∃ r : Nat, Int.fmod cell 10000000000037 = (r : Int) ∧ r < 10000000000037 := fmod_is (k := 10000000000037) (by decide +kernel)
      rw [hr1]
      isplit
      isplit
      isplit
      isplit
      isplit
      isplit
      refine mul_ii (small_mul (by decide +kernel) (by decide +kernel) (by omega) (by omega)) fun t10 => ?_
      kst_mem
      have emx : ((r : Int) + 613 * (lap : Int) + 41) = ((r + 613 * lap + 41 : Nat) : Int) := by push_cast; rfl
      rw [emx]
      have hmx : r + 613 * lap + 41 < 2 ^ 60 := by omega
      generalize r + 613 * lap + 41 = mx at hmx
      refine mul_ii (IntMulOk.of_right (by decide +kernel)) fun t11 => ?_
      kst_mem
      refine mul_ii (small_mul (by omega) (by omega) (by omega) (by omega)) fun t12 => ?_
      kst_mem
      refine mul_ii (y := 3) (IntMulOk.of_right (by decide +kernel)) fun t13 => ?_
      kst_mem
      refine mod_ii (by decide +kernel) fun t14 => ?_
      obtain ⟨r2, hr3, hr4⟩ : ∃ r2 : Nat, Int.fmod ((mx : Int) * 3935559000370003845 + (mx : Int) * (mx : Int) * 3) 2305843009213693973 = (r2 : Int) ∧ r2 < 2305843009213693973 := fmod_is (k := 2305843009213693973) (by decide +kernel)
      rw [hr3]
      kst_mem
      refine k_set (hwb.trans hw) S ho1 (by simp) fun o2 ho2 => ?_
      replace ho2 : o2.IsDictOf (SK w) [("cells", cv), ("lap", .int ((lap + 1 : Nat) : Int) tl), ("rest", .int (r2 : Nat) t14)] := ho2
      kst_mem
      refine k_item (hwb.trans hw) S ho2 rfl ?_
      kst_mem
      refine mod_ii (by omega) fun t21 => ?_
      kst_mem
      refine k_item (hwb.trans hw) S ho2 rfl ?_
      kst_mem
      refine fdiv_ii (by omega) (PyProof.noPylong_small (by omega)) fun t22 => ?_
      kst_mem
      refine k_set (hwb.trans hw) S ho2 (by simp) fun o9 ho9 => ?_
      kst_mem
      rw [fmod_nat]
      refine q _ _ _ _ (by kqd_sub) ⟨cv, cvs, lap + 1, r2 / ways, tl, t22, ?_, h2.mono (by kqd_sub), h3, h4, h5, by omega, Nat.lt_of_le_of_lt (Nat.div_le_self _ _) (by omega)⟩ (Nat.mod_lt _ (by omega))
      rw [fdiv_nat] at ho9
      exact ho9
  | false =>
    kst_mem
    refine k_item (hwb.trans hw) S h1 rfl ?_
    kst_mem
    refine mod_ii (by omega) fun t21 => ?_
    kst_mem
    refine k_item (hwb.trans hw) S h1 rfl ?_
    kst_mem
    refine fdiv_ii (by omega) (PyProof.noPylong_small (by omega)) fun t22 => ?_
    kst_mem
    refine k_set (hwb.trans hw) S h1 (by simp) fun o9 ho9 => ?_
    kst_mem
    rw [fmod_nat]
    refine q _ _ _ _ (by kqd_sub) ⟨cv, cvs, lap, rest / ways, t1, t22, ?_, h2.mono (by kqd_sub), h3, h4, h5, by omega, Nat.lt_of_le_of_lt (Nat.div_le_self _ _) h7⟩ (Nat.mod_lt _ (by omega))
    rw [fdiv_nat] at ho9
    exact ho9
end
end
section
section
variable {X : Post Value} {a : Act} {m : Map} {M I : Led} {n : Nat} {Q : Post Value} {w : World}
theorem Xs.cut {t : Sem Flow} {P : PostS} (R : PostS) (h : Xs a t m M I R X) (q : ∀ v m' M' I', I ⊆ I' → R v m' M' I' → P v m' M' I') : Xs a t m M I P X := h.mono q fun _ _ _ _ h => h
theorem c_entry (ok : a.Ok 2) (hw : a.w = w) {d o t} {n : Nat} {k : Kd} (M' : Obj → Led) (S : Spot d M') {I₀ : Led} (hc : CaskO w I₀ o n) (hn : n ≤ 900)
    (q : ∀ v x o' I', I ⊆ I' → CaskO w I' o' (n + 2) → DatIn I' v x → ItK k x → Q v (M' o') I') (s₀ : I₀ ⊆ I := by kqd_sub) : Ex a (call (.ref 621) [.ref d, .str k.s t]) m (M' o) I Q X := by
  refine' Ex_call (binds := [("cask", .ref d), ("sort", .str k.s t)]) ok ?ho ?hcd ?hb ?hk ?hnd ?hco ?hgen ?hkk ?_
  ktr_room
  intro b okb hwb fm
  kst_mem
  refine c_next (ways := 6) okb (hwb.trans hw) M' S hc (by omega) (by omega) (by omega) fun g t1 o1 I1 s1 hc1 hg => ?_
  kst_mem
  obtain ⟨b1, hb1⟩ : ∃ b1, b1 = ((g : Int) == 5) := ⟨_, rfl⟩
  rw [← hb1]
  kst_mem
  cases b1 with
  | true =>
    kst_mem
    exact q _ _ _ _ (by kqd_sub) (hc1.le (by omega)) .none (by cases k <;> exact .inl rfl)
  | false =>
    kst_mem
    cases k with
    | l =>
      rw [show (Kd.l.s == ("logical" : Str)) = true by decide +kernel]
      kst_mem
      refine c_next (ways := 2) okb (hwb.trans hw) M' S hc1 (by omega) (by omega) (by omega) fun g t1 o1 I1 s1 hc1 hg => ?_
      exact q _ _ _ _ (by kqd_sub) hc1 (.int _ _) (.inr ⟨_, rfl⟩)
    | i =>
      rw [show (Kd.i.s == ("logical" : Str)) = false by decide +kernel]
      kst_mem
      refine c_next (ways := 19) okb (hwb.trans hw) M' S hc1 (by omega) (by omega) (by omega) fun g t1 o1 I1 s1 hc1 hg => ?_
      kst_mem
      exact q _ _ _ _ (by kqd_sub) hc1 (.int _ _) (.inr ⟨_, rfl⟩)
    | d =>
      rw [show (Kd.d.s == ("logical" : Str)) = false by decide +kernel]
      kst_mem
      refine c_next (ways := 9) okb (hwb.trans hw) M' S hc1 (by omega) (by omega) (by omega) fun g t1 o1 I1 s1 hc1 hg => ?_
      kst_mem
      refine mul_ii (small_mul (by omega) (by omega) (by omega) (by omega)) fun t2 => ?_
      kst_mem
      refine ⟨Nat.le_of_ble_eq_true rfl, fun r => ?_⟩
      exact q _ _ _ _ (by kqd_sub) (hc1.mono (by kqd_sub)) (.tuple (.head _) (.cons (.int _ _) (.cons (.int _ _) .nil))) (.inr ⟨_, .inl rfl⟩)
end
end
section
noncomputable def StOk (x : Str) : Prop := x.length ≤ 100 ∧ PyData.strOk x = true
noncomputable def NsOk (o : Option (List Str)) : Prop := ∀ ns, o = some ns → ∀ x ∈ ns, StOk x
noncomputable def axNames (mk : Str) (k : Nat) : List Str := (List.range k).map fun (i : Nat) => mk ++ Str.ofString (toString (i : Int))
theorem ok_append {x y : Str} (h : PyData.strOk x = true) (k : PyData.strOk y = true) : PyData.strOk (x ++ y) = true := by
  unfold PyData.strOk at *
  rw [Str.cps_append, Array.all_append, h, k]; rfl
theorem small_str {i : Nat} (h : i < 4) : (Str.ofString (toString (i : Int))).length ≤ 2 ∧ PyData.strOk (Str.ofString (toString (i : Int))) = true := by
  match i, h with
  | 0, _ => decide +kernel
  | 1, _ => decide +kernel
  | 2, _ => decide +kernel
  | 3, _ => decide +kernel
theorem axNames_ok {mk : Str} {k : Nat} (hk : k ≤ 4) (h1 : mk.length ≤ 4) (h2 : PyData.strOk mk = true) : NsOk (some (axNames mk k)) := by
  intro ns e x hx
  cases e
  obtain ⟨i, hi, rfl⟩ := List.mem_map.mp hx
  obtain ⟨s1, s2⟩ := small_str (i := i) (by have := List.mem_range.mp hi; omega)
  exact ⟨by rw [Str.length_append]; omega, ok_append h2 s2⟩
theorem chunks {α : Type} {h : Nat} : ∀ {v : Nat} {ds : List α}, ds.length = h * v → ∃ cols : List (List α), cols.flatten = ds ∧ cols.length = v ∧ ∀ c ∈ cols, c.length = h
  | 0, ds, e => ⟨[], by have : ds.length = 0 := by simpa using e
                        rw [List.length_eq_zero_iff.mp this]; rfl, rfl, fun _ h => nomatch h⟩
  | v + 1, ds, e => by
    rw [Nat.mul_succ] at e
    obtain ⟨cols, e1, e2, e3⟩ := chunks (h := h) (v := v) (ds := ds.drop h) (by rw [List.length_drop]; omega)
    refine ⟨ds.take h :: cols, by rw [List.flatten_cons, e1, List.take_append_drop], by simp [e2], fun c hc => ?_⟩
    rcases List.mem_cons.mp hc with rfl | hc
    · rw [List.length_take]; omega
    · exact e3 c hc
theorem axNames_len {mk : Str} {k : Nat} : (axNames mk k).length = k := by simp [axNames]
theorem axNames_succ {mk : Str} {k : Nat} : axNames mk (k + 1) = axNames mk k ++ [mk ++ Str.ofString (toString (k : Int))] := by
  unfold axNames; rw [List.range_succ, List.map_append]; rfl
section
variable {X : Post Value} {a : Act} {m : Map} {M I : Led} {n : Nat} {Q : Post Value} {w : World}
theorem c_block (ok : a.Ok 9) (hw : a.w = w) {d o t1 t2 t3} {n h v : Nat} {mk : Str} (M' : Obj → Led) (S : Spot d M') {I₀ : Led} (hc : CaskO w I₀ o n) (hn : n ≤ 500) (hh1 : 1 ≤ h) (hh : h ≤ 3) (hv1 : 1 ≤ v) (hv : v ≤ 3) (hmk : mk.length ≤ 2) (hmo : PyData.strOk mk = true)
    (q : ∀ r A o' I', I ⊆ I' → CaskO w I' o' (n + 21) → MatI w I' r A → A.Gd → A.n = h → A.cols.length = v → NsOk A.rn → NsOk A.cn → Q r (M' o') I') (s₀ : I₀ ⊆ I := by kqd_sub) : Ex a (call (.ref 626) [.ref d, .int (h : Int) t1, .int (v : Int) t2, .str mk t3]) m (M' o) I Q X := by
  refine .fz ?_
  refine' Ex_call (binds := [("cask", .ref d), ("height", .int (h : Int) t1), ("width", .int (v : Int) t2), ("mark", .str mk t3)]) ok ?ho ?hcd ?hb ?hk ?hnd ?hco ?hgen ?hkk ?_
  ktr_room
  intro b okb hwb fm
  have hkl : ("k" : Str).length = 1 := by decide +kernel
  kst_mem
  rename_i ta tb tc
  refine ⟨Nat.le_of_ble_eq_true rfl, fun D0 => ?_⟩
  isplit
  kst_p
  kst_mem
  refine c_next (ways := 3) (okb.le (by decide)) (hwb.trans hw) M' S hc (by omega) (by omega) (by omega) fun g t4 o1 I1 s1 hc1 hg => ?_
  obtain ⟨k, tk, hk⟩ : ∃ (k : Kd) (tk : Tok), ([.str "logical" ta, .str "integer" tb, .str "double" tc] : List Value)[g]? = some (.str k.s tk) := by
    match g, hg with
    | 0, _ => exact ⟨.l, _, rfl⟩
    | 1, _ => exact ⟨.i, _, rfl⟩
    | 2, _ => exact ⟨.d, _, rfl⟩
  kst_mem
  refine list_item (.ofI (s1 (.head _))) (by omega) (by omega) (by simpa using hk) ?_
  kst_mem
  with_reducible refine' E_comp_range okb ?c1 ?c2 ?c3 ?_
  case c1 => exact ⟨rfl, rfl, rfl, rfl, by rw [fm.ce]; rfl⟩
  case c2 => rfl
  case c3 => exact fun _ => rfl
  kst_mem
  refine mul_ii (small_mul (by omega) (by omega) (by omega) (by omega)) fun t5 => ?_
  have hhv : h * v ≤ 9 := Nat.mul_le_mul hh hv
  rw [show (h : Int) * (v : Int) = ((h * v : Nat) : Int) by push_cast; rfl]
  kst_mem
  refine range_1 fun r u1 u2 u3 => ?_
  let J_1 : Nat → List Value → Led → Led → Prop := fun i ys M₁ I₁ => ∃ o' ds, M₁ = M' o' ∧ CaskO w I₁ o' (n + 1 + 2 * i) ∧ DatAll I₁ ys ds ∧ ds.length = i ∧ ∀ x ∈ ds, ItK k x
  refine ⟨r, h * v, _, _, _, rfl, .head _, by omega, J_1, ⟨o1, [], rfl, hc1.mono (by kqd_sub), .nil, rfl, fun _ h => nomatch h⟩, ?_, ?_⟩
  · rintro C i t ys M₁ I₁ hi hI₁ ⟨o', ds, rfl, hc', hy, hl, hds⟩
    kst_mem
    refine c_entry ((okb.comp (by rfl) C).le (by decide)) (hwb.trans hw) M' S hc' (by omega) fun u x o2 I2 s2 hc2 hu hx => ?_
    refine ⟨o2, ds ++ [x], rfl, hc2.le (by omega), (hy.mono (sb (by kqd_sub))).append (.one hu), by simp [hl], fun y hy => ?_⟩
    rcases List.mem_append.mp hy with h | h
    · exact hds y h
    · rw [List.mem_singleton.mp h]; exact hx
  · rintro ys M₁ I₁ hI₁ ⟨o2, ds, rfl, hc2, hy, hl, hds⟩ D c
    kst_mem
    kst_p
    kst_mem
    refine c_vector2 (okb.le (by decide)) fun x dx ob fb => ?_
    kst_mem
    refine ⟨Nat.le_of_ble_eq_true rfl, fun D1 => ?_⟩
    kst_mem
    kst_p
    kst_mem
    refine c_integer (I₀ := (D1, Li [.int (h : Int) t1, .int (v : Int) t2] 0) :: (D, Li ys c) :: I₁) (okb.le (by decide)) ⟨D1, 0, rfl, .head _⟩ (Nat.le_of_ble_eq_true rfl) fun dv dsv I3 s3 hdv hdsv => ?_
    kst_mem
    refine ⟨rfl, by simp [strPairs], fun dd od hod lo => ?_⟩
    kst_mem
    refine' set_field okb (M' := fun o' => (dd, od) :: (x, instObj 99 dx) :: (dx, o') :: M' o2) (.ofM (.tail _ (.head _))) fb ?s1 ?s2 ?s3 ?s4 ?z ?U ?_
    case s1 => k_is
    case s2 => k_is
    case s3 => k_is
    case s4 => k_is
    case z => exact Nat.le_of_ble_eq_true rfl
    case U => exact fun o' => .tail (.tail .head)
    intro ob1 fb1
    kst_mem
    refine i_null (okb.le (by decide)) fun n0 I4 s4 hn0 => ?_
    kst_mem
    refine i_null (okb.le (by decide)) fun n1 I5 s5 hn1 => ?_
    kst_mem
    refine ⟨Nat.le_of_ble_eq_true rfl, fun H => ?_⟩
    isplit
    refine Xs.cons ?_
    refine Xs.cut (fun fl m' L' I' => fl = .next ∧ (m' "cask" = some (.ref d) ∧ m' "width" = some (.int (v : Int) t2) ∧ m' "mark" = some (.str mk t3) ∧ m' "block" = some (.ref x) ∧ m' "heads" = some (.ref H)) ∧
      ∃ nv rn oc c, L' = (H, Li [nv, n1] c) :: (dd, od) :: (x, instObj 99 dx) :: (dx, ob1) :: M' oc ∧ CaskO w I' oc (n + 20) ∧ AxI I' nv rn ∧ (∀ ns, rn = some ns → ns.length = h) ∧ NsOk rn) ?_ ?_
    · have hpos : decide ((0 : Int) < (h : Int)) = true := by simp; omega
      kst_mem
      rw [hpos]
      kst_mem
      refine c_next (ways := 2) (okb.le (by decide)) (hwb.trans hw) (fun oc => (H, Li [n0, n1] 0) :: (dd, od) :: (x, instObj 99 dx) :: (dx, ob1) :: M' oc) (.tail (.tail (.tail (.tail S)))) (hc2.mono (by kqd_sub)) (by omega) (by omega) (by omega) (fun g t6 o3 I6 s6 hc3 hg => ?_) (List.Subset.refl _)
      kst_mem
      obtain ⟨b1, hb1⟩ : ∃ b1, b1 = ((g : Int) == 1) := ⟨_, rfl⟩
      rw [← hb1]
      kst_mem
      cases b1 with
      | false =>
        kst_mem
        exact ⟨rfl, ⟨by kp_flats, by kp_flats, by kp_flats, by kp_flats, by kp_flats⟩, n0, none, o3, 0, rfl, hc3.le (by omega), hn0.mono (by kqd_sub), (fun _ h => nomatch h), (fun _ h => nomatch h)⟩
      | true =>
        kst_mem
        with_reducible refine' E_comp_range okb ?c1 ?c2 ?c3 ?_
        case c1 => exact ⟨rfl, rfl, rfl, rfl, by rw [fm.ce]; rfl⟩
        case c2 => rfl
        case c3 => exact fun _ => rfl
        kst_mem
        refine range_1 fun r u1 u2 u3 => ?_
        let J_2 : Nat → List Value → Led → Led → Prop := fun i ys L₁ I₁ => L₁ = (H, Li [n0, n1] 0) :: (dd, od) :: (x, instObj 99 dx) :: (dx, ob1) :: M' o3 ∧ StrsAre ys (axNames mk i)
        refine ⟨r, h, _, _, _, rfl, .head _, by omega, J_2, ⟨rfl, .nil⟩, ?_, ?_⟩
        · rintro C i t ys L₁ I₁ hi hI₁ ⟨rfl, hy⟩
          obtain ⟨z1, z2⟩ := small_str (i := i) (by omega)
          kst_mem
          refine str_i (by rw [Int.natAbs_natCast]; exact Nat.lt_of_le_of_lt (Nat.log2_le_self _) (by omega)) fun t7 => ?_
          kst_mem
          refine add_ss (Nat.le_trans (show mk.length + (Str.ofString (toString (i : Int))).length ≤ 1000 by omega) (by decide)) fun t8 => ?_
          refine ⟨rfl, ?_⟩
          rw [axNames_succ]
          exact strsAre_append hy (.cons _ _ .nil)
        · rintro ys L₁ I₁ hI₁ ⟨rfl, hy⟩ D9 c9
          kst_mem
          kst_p
          kst_mem
          refine c_character (I₀ := (D9, Li ys c9) :: I₁) (okb.le (by decide)) ⟨ys, ⟨D9, c9, rfl, .head _⟩, hy⟩ (by rw [axNames_len]; omega) fun rv iv I7 s7 h1 h2 => ?_
          kst_mem
          refine list_set (by decide) (by decide) (Nat.le_of_ble_eq_true rfl) .head ?_
          kst_mem
          exact ⟨rfl, ⟨by kp_flats, by kp_flats, by kp_flats, by kp_flats, by kp_flats⟩, rv, some (axNames mk h), o3, 0, rfl, (hc3.le (by omega)).mono (by kqd_sub), ⟨iv, h1, h2⟩, fun ns e => by cases e; exact axNames_len, axNames_ok (by omega) (by omega) hmo⟩
    · rintro fl m₁ L₁ I₁' hI₁' ⟨rfl, ⟨e1, e2, e3, e4, e5⟩, nv, rn, oc, c', rfl, hc4, hax0, hrl, hro⟩
      isplit
      refine Xs.cons ?_
      refine Xs.cut (fun fl m' L' I' => fl = .next ∧ (m' "block" = some (.ref x) ∧ m' "heads" = some (.ref H)) ∧
        ∃ nw cn oc c, L' = (H, Li [nv, nw] c) :: (dd, od) :: (x, instObj 99 dx) :: (dx, ob1) :: M' oc ∧ CaskO w I' oc (n + 21) ∧ AxI I' nw cn ∧ (∀ ns, cn = some ns → ns.length = v) ∧ NsOk cn) ?_ ?_
      · have hpos : decide ((0 : Int) < (v : Int)) = true := by simp; omega
        kst_mem
        rw [hpos]
        kst_mem
        refine c_next (ways := 3) (okb.le (by decide)) (hwb.trans hw) (fun oc => (H, Li [nv, n1] c') :: (dd, od) :: (x, instObj 99 dx) :: (dx, ob1) :: M' oc) (.tail (.tail (.tail (.tail S)))) hc4 (by omega) (by omega) (by omega) (fun g t6 o3 I6 s6 hc3 hg => ?_) (List.Subset.refl _)
        kst_mem
        obtain ⟨b1, hb1⟩ : ∃ b1, b1 = ((g : Int) == 1) := ⟨_, rfl⟩
        rw [← hb1]
        kst_mem
        cases b1 with
        | false =>
          kst_mem
          exact ⟨rfl, ⟨by kp_flats, by kp_flats⟩, n1, none, o3, c', rfl, hc3.le (by omega), hn1.mono (by kqd_sub), (fun _ h => nomatch h), (fun _ h => nomatch h)⟩
        | true =>
          kst_mem
          with_reducible refine' E_comp_range okb ?c1 ?c2 ?c3 ?_
          case c1 => exact ⟨rfl, rfl, rfl, rfl, by rw [fm.ce]; rfl⟩
          case c2 => rfl
          case c3 => exact fun _ => rfl
          kst_mem
          refine range_1 fun r u1 u2 u3 => ?_
          let J_3 : Nat → List Value → Led → Led → Prop := fun i ys L₁ I₁ => L₁ = (H, Li [nv, n1] c') :: (dd, od) :: (x, instObj 99 dx) :: (dx, ob1) :: M' o3 ∧ StrsAre ys (axNames (mk ++ "k") i)
          refine ⟨r, v, _, _, _, rfl, .head _, by omega, J_3, ⟨rfl, .nil⟩, ?_, ?_⟩
          · rintro C i t ys L₁ I₁ hi hI₁ ⟨rfl, hy⟩
            obtain ⟨z1, z2⟩ := small_str (i := i) (by omega)
            kst_mem
            refine add_ss (Nat.le_trans (show mk.length + ("k" : Str).length ≤ 1000 by rw [hkl]; omega) (by decide)) fun t8 => ?_
            kst_mem
            refine str_i (by rw [Int.natAbs_natCast]; exact Nat.lt_of_le_of_lt (Nat.log2_le_self _) (by omega)) fun t7 => ?_
            kst_mem
            refine add_ss (Nat.le_trans (show (mk ++ ("k" : Str)).length + (Str.ofString (toString (i : Int))).length ≤ 1000 by rw [Str.length_append, hkl]; omega) (by decide)) fun t8 => ?_
            refine ⟨rfl, ?_⟩
            rw [axNames_succ]
            exact strsAre_append hy (.cons _ _ .nil)
          · rintro ys L₁ I₁ hI₁ ⟨rfl, hy⟩ D9 c9
            kst_mem
            kst_p
            kst_mem
            refine c_character (I₀ := (D9, Li ys c9) :: I₁) (okb.le (by decide)) ⟨ys, ⟨D9, c9, rfl, .head _⟩, hy⟩ (by rw [axNames_len]; omega) fun rv iv I7 s7 h1 h2 => ?_
            kst_mem
            refine list_set (by decide) (by decide) (Nat.le_of_ble_eq_true rfl) .head ?_
            kst_mem
            exact ⟨rfl, ⟨by kp_flats, by kp_flats⟩, rv, some (axNames (mk ++ "k") v), o3, c', rfl, (hc3.le (by omega)).mono (by kqd_sub), ⟨iv, h1, h2⟩, fun ns e => by cases e; exact axNames_len, axNames_ok (by omega) (by rw [Str.length_append, hkl]; omega) (ok_append hmo (by decide +kernel))⟩
      · rintro fl m₂ L₂ I₂' hI₂' ⟨rfl, ⟨f1, f2⟩, nw, cn, oc2, c'', rfl, hc5, hax1, hcl, hco⟩
        isplit
        refine Xs.freeze ?_
        obtain ⟨cols, hf, hcols2, hcl2⟩ := chunks (h := h) (v := v) hl
        have hgdz : ∀ A : Mt, A = ⟨k, h, cols, rn, cn⟩ → A.Gd := fun A e => by
          subst e
          exact ⟨⟨hcl2, by show h ≤ 20; omega, by show cols.length ≤ 20; omega, fun ns e => by rw [hrl ns e]; omega, fun ns e => by rw [hcl ns e]; omega⟩, hh1, by show 1 ≤ cols.length; omega, hrl, fun ns e => (hcl ns e).trans hcols2.symm, fun c hc x hx => hds x (by rw [← hf]; exact List.mem_flatten.mpr ⟨c, hc, hx⟩)⟩
        obtain ⟨A, hA⟩ : ∃ A : Mt, A = ⟨k, h, cols, rn, cn⟩ := ⟨_, rfl⟩
        have gd := hgdz A hA
        subst hA
        have hdat : DatAll I₁ ys cols.flatten := by rw [hf]; exact hy
        have hdsv' : LiI I3 dsv [.int (h : Nat) t1, .int (cols.length : Nat) t2] := by rw [hcols2]; exact hdsv
        have hDm : (D, Li ys c) ∈ I₂' := hI₂' (hI₁' (s5 (s4 (s3 (.tail _ (.head _))))))
        kst_mem
        refine list_item (.ofI (.head _)) (by decide) (by decide) rfl ?_
        kst_mem
        cases rn with
        | some ms =>
          obtain ⟨iv0, j1, j2⟩ := hax0
          refine g_kind okb j1 fun _ => ?_
          have hax0 : AxI I₂' nv (some ms) := ⟨iv0, j1.mono (by kqd_sub), j2.mono (by kqd_sub)⟩
          kst_mem
          refine i_vector2 (okb.le (by decide)) fun rl I8 s8 hrl => ?_
          kst_mem
          refine' get_field okb (.ofM (.tail _ (.head _))) (.ofM (.tail _ (.tail _ (.head _)))) fb1 ?k1 ?k2 ?k3 ?k4 ?k5 ?k6 ?_
          case k1 => k_is
          case k2 => k_is
          case k3 => k_is
          case k4 => k_is
          case k5 => rfl
          case k6 => rfl
          kst_mem
          refine dict_set (M' := fun o' => (dd, o') :: (x, instObj 99 dx) :: (dx, ob1) :: M' oc2) hod (fun o' => .head) (Nat.le_of_ble_eq_true rfl) fun od2 hod2 => ?_
          rw [hwb, hw] at hod2
          kst_mem
          refine ⟨_, _, .step (.step (.step .refl)), q _ ⟨k, h, cols, _, _⟩ oc2 _ (by kqd_sub) (hc5.mono (by kqd_sub)) ?_ gd rfl hcols2 hro hco⟩
          refine ⟨.ref D, ys, .ref dd, dv, dsv, ⟨x, dx, ob1, tk, _, _, rfl, ?_, ?_, fb1⟩, ⟨D, c, rfl, ?_⟩, hdat.mono (sb ?_), ⟨t1, t2, hdv.mono ?_, hdsv'.mono ?_⟩, .inr ⟨rl, .ref H, nv, nw, ⟨dd, od2, rfl, ?_, hod2, lo⟩, hrl.mono ?_, ⟨H, c'', rfl, ?_⟩, hax0.mono ?_, hax1.mono ?_⟩⟩
          all_goals first | kqd_sub | skip
          · exact .tail _ (.head _)
          · exact .head _
          · exact .tail _ (.tail _ (.tail _ (s8 (.tail _ (hDm)))))
          · exact .tail _ (.tail _ (.head _))
          · exact .tail _ (.tail _ (.tail _ (s8 (.head _))))
        | none =>
          refine g_nkind okb hax0 fun _ => ?_
          kst_mem
          refine list_item (.ofI (.head _)) (by decide) (by decide) rfl ?_
          kst_mem
          cases cn with
          | some ms =>
            obtain ⟨iv0, j1, j2⟩ := hax1
            refine g_kind okb j1 fun _ => ?_
            have hax1 : AxI I₂' nw (some ms) := ⟨iv0, j1, j2⟩
            kst_mem
            refine i_vector2 (okb.le (by decide)) fun rl I8 s8 hrl => ?_
            kst_mem
            refine' get_field okb (.ofM (.tail _ (.head _))) (.ofM (.tail _ (.tail _ (.head _)))) fb1 ?k1 ?k2 ?k3 ?k4 ?k5 ?k6 ?_
            case k1 => k_is
            case k2 => k_is
            case k3 => k_is
            case k4 => k_is
            case k5 => rfl
            case k6 => rfl
            kst_mem
            refine dict_set (M' := fun o' => (dd, o') :: (x, instObj 99 dx) :: (dx, ob1) :: M' oc2) hod (fun o' => .head) (Nat.le_of_ble_eq_true rfl) fun od2 hod2 => ?_
            rw [hwb, hw] at hod2
            kst_mem
            refine ⟨_, _, .step (.step (.step .refl)), q _ ⟨k, h, cols, _, _⟩ oc2 _ (by kqd_sub) (hc5.mono (by kqd_sub)) ?_ gd rfl hcols2 hro hco⟩
            refine ⟨.ref D, ys, .ref dd, dv, dsv, ⟨x, dx, ob1, tk, _, _, rfl, ?_, ?_, fb1⟩, ⟨D, c, rfl, ?_⟩, hdat.mono (sb ?_), ⟨t1, t2, hdv.mono ?_, hdsv'.mono ?_⟩, .inr ⟨rl, .ref H, nv, nw, ⟨dd, od2, rfl, ?_, hod2, lo⟩, hrl.mono ?_, ⟨H, c'', rfl, ?_⟩, hax0.mono ?_, hax1.mono ?_⟩⟩
            all_goals first | kqd_sub | skip
            · exact .tail _ (.head _)
            · exact .head _
            · exact .tail _ (.tail _ (.tail _ (s8 (.tail _ (hDm)))))
            · exact .tail _ (.tail _ (.head _))
            · exact .tail _ (.tail _ (.tail _ (s8 (.head _))))
          | none =>
            refine g_nkind okb hax1 fun _ => ?_
            kst_mem
            refine ⟨_, _, .step (.step (.step .refl)), q _ ⟨k, h, cols, none, none⟩ oc2 _ (by kqd_sub) (hc5.mono (by kqd_sub)) ?_ gd rfl hcols2 hro hco⟩
            rw [hwb, hw] at hod
            refine ⟨.ref D, ys, .ref dd, dv, dsv, ⟨x, dx, ob1, tk, _, _, rfl, ?_, ?_, fb1⟩, ⟨D, c, rfl, ?_⟩, hdat.mono (sb ?_), ⟨t1, t2, hdv.mono ?_, hdsv'.mono ?_⟩, .inl ⟨rfl, rfl, ⟨dd, od, rfl, ?_, hod, lo⟩⟩⟩
            all_goals first | kqd_sub | skip
            · exact .tail _ (.head _)
            · exact .head _
            · exact .tail _ (.tail _ (.tail _ (.tail _ hDm)))
            · exact .tail _ (.tail _ (.head _))
end
end
section
theorem str_empty_iff {x : Str} : x = ("" : Str) ↔ x.cps.size = 0 := by
  constructor
  · intro e; subst e; decide
  · intro e
    obtain ⟨c⟩ := x
    have : c = #[] := Array.size_eq_zero_iff.mp e
    subst this; rfl
theorem join_size : ∀ l : List Str, (Str.join ("" : Str) l).cps.size = 0 ↔ ∀ x ∈ l, x.cps.size = 0
  | [] => by constructor <;> intro _ <;> first | exact rfl | (intro x h; cases h)
  | [x] => by
    show x.cps.size = 0 ↔ _
    simp
  | x :: y :: r => by
    have ih := join_size (y :: r)
    have e : (Str.join ("" : Str) (x :: y :: r)) = x ++ ("" : Str) ++ Str.join ("" : Str) (y :: r) := rfl
    rw [e, Str.cps_append, Str.cps_append, Array.size_append, Array.size_append]
    have z : ("" : Str).cps.size = 0 := by decide
    rw [z]
    constructor
    · intro h w hw
      rcases List.mem_cons.mp hw with rfl | hw
      · omega
      · exact ih.mp (by omega) w hw
    · intro h
      have h1 := h x (.head _)
      have h2 := ih.mpr fun w hw => h w (.tail _ hw)
      omega
theorem join_empty (l : List Str) : (Txt.join ("" : Str) l == ("" : Str)) = !(l.any (· != ("" : Str))) := by
  have e : Txt.join ("" : Str) l = Str.join ("" : Str) l := by
    show Builtin.Str.glued ("" : Str) l = _
    exact StrLaws.glued_eq_join _ _
  rw [e]
  by_cases h : ∀ x ∈ l, x.cps.size = 0
  · have h1 := (join_size l).mpr h
    rw [str_empty_iff.mpr h1]
    have : l.any (· != ("" : Str)) = false := by
      rw [List.any_eq_false]
      intro x hx
      rw [str_empty_iff.mpr (h x hx)]; simp
    rw [this]; simp
  · have h1 : ¬ (Str.join ("" : Str) l) = ("" : Str) := fun q => h ((join_size l).mp (str_empty_iff.mp q))
    have : l.any (· != ("" : Str)) = true := by
      rw [List.any_eq_true]
      apply Classical.byContradiction
      intro q
      apply h
      intro x hx
      apply Classical.byContradiction
      intro q2
      exact q ⟨x, hx, by simpa using fun e => q2 (str_empty_iff.mp e)⟩
    rw [this]
    simpa using h1
end
section
theorem kmo_bound {ks : List Kd} {n : Nat} (h : ∀ k ∈ ks, k.o ≤ n) : kmo ks ≤ n := by
  unfold kmo
  suffices ∀ (l : List Kd) (m : Nat), m ≤ n → (∀ k ∈ l, k.o ≤ n) → l.foldl (fun m k => max m k.o) m ≤ n from this ks 0 (Nat.zero_le _) h
  intro l
  induction l with
  | nil => intro m hm _; exact hm
  | cons k r ih => intro m hm hk; exact ih _ (Nat.max_le.mpr ⟨hm, hk k (.head _)⟩) fun x hx => hk x (.tail _ hx)
noncomputable def nmD : Option (List Str) → Dat | none => .none | some ns => .list (ns.map .str)
noncomputable def whole (A : Mt) : Dat := .tuple [.str A.kind.s, .list A.cols.flatten, .list [.int (A.n : Int), .int (A.cols.length : Int)], nmD A.rn, nmD A.cn]
theorem strs_dat {I : Led} {vs : List Value} {ns : List Str} (h : StrsAre vs ns) : DatAll I vs (ns.map .str) := by
  induction h with
  | nil => exact .nil
  | cons y t _ ih => exact .cons (.str _ _) ih
theorem NmI.dat {I v o} (h : NmI I v o) : DatIn I v (nmD o) := by
  cases o with
  | none => rw [show v = .none from h]; exact .none
  | some ns => obtain ⟨vs, h1, h2⟩ := h; exact h1.dat (strs_dat h2)
noncomputable def MtsI (w : World) (I : Led) (vs : List Value) (Bs : List Mt) : Prop := PtsI w I vs (Bs.map .mat)
theorem MtsI.at {w I vs Bs} (h : MtsI w I vs Bs) {i : Nat} {A : Mt} (e : Bs[i]? = some A) : ∃ v, vs[i]? = some v ∧ MatI w I v A := h.2 i (.mat A) (by rw [List.getElem?_map, e]; rfl)
theorem MtsI.len {w I vs Bs} (h : MtsI w I vs Bs) : vs.length = Bs.length := by have := h.1; rwa [List.length_map] at this
theorem MtsI.get {w I vs Bs} (h : MtsI w I vs Bs) {i : Nat} {v : Value} (e : vs[i]? = some v) : ∃ A, Bs[i]? = some A ∧ MatI w I v A := by
  have hi : i < Bs.length := by rw [← h.len]; exact (List.getElem?_eq_some_iff.mp e).1
  obtain ⟨v', h1, h2⟩ := h.at (List.getElem?_eq_getElem hi)
  rw [e] at h1; cases h1
  exact ⟨_, List.getElem?_eq_getElem hi, h2⟩
section
variable {X : Post Value} {a : Act} {m : Map} {M I : Led} {n : Nat} {Q : Post Value} {w : World}
theorem c_law_names (ok : a.Ok 1) (hw : a.w = w) {v A t} {k : Nat} (hk : k < 2) {I₀ : Led} (hv : MatI w I₀ v A) (hz : Zn (if k = 0 then A.rn else A.cn)) (q : ∀ u I', I ⊆ I' → NmI I' u (if k = 0 then A.rn else A.cn) → Q u M I') (s₀ : I₀ ⊆ I := by kqd_sub) : Ex a (call (.ref 633) [v, .int (k : Int) t]) m M I Q X := by
  obtain ⟨iv, vs, av, dv, ds, h1, h2, h3, h4, h5⟩ := hv
  refine' Ex_call (binds := [("block", v), ("way", .int (k : Int) t)]) ok ?ho ?hcd ?hb ?hk ?hnd ?hco ?hgen ?hkk ?_
  ktr_room
  intro b okb hwb fm
  kst_mem
  rcases h5 with ⟨e1, e2, h5⟩ | ⟨nv, nl, n0, n1, h5, h6, h7, h8, h9⟩
  · refine g_attrs okb h1 h5.handed ?_
    kst_mem
    refine d_notin (hwb.trans hw) h5 ?_
    kst_mem
    exact q _ _ (by kqd_sub) (by rw [e1, e2]; split <;> rfl)
  · obtain ⟨u, o, hu, hax, eo⟩ : ∃ u o, [n0, n1][(k : Int).toNat]? = some u ∧ AxI I₀ u o ∧ (if k = 0 then A.rn else A.cn) = o := by
      match k, hk with
      | 0, _ => exact ⟨n0, _, rfl, h8, rfl⟩
      | 1, _ => exact ⟨n1, _, rfl, h9, rfl⟩
    rw [eo] at q hz
    refine g_attrs okb h1 h5.handed ?_
    kst_mem
    refine d_notin (hwb.trans hw) h5 ?_
    kst_mem
    refine g_attrs okb h1 h5.handed ?_
    kst_mem
    refine d_item (hwb.trans hw) h5 rfl ?_
    kst_mem
    refine g_items okb h6 h7.handed ?_
    kst_mem
    refine l_item h7 (by omega) (by omega) hu ?_
    kst_mem
    cases o with
    | none =>
      refine g_nkind okb hax fun _ => ?_
      kst_mem
      exact q _ _ (by kqd_sub) rfl
    | some ns =>
      obtain ⟨iv, k1, k2⟩ := hax
      refine g_kind okb k1 fun _ => ?_
      kst_mem
      refine g_attrs okb h1 h5.handed ?_
      kst_mem
      refine d_item (hwb.trans hw) h5 rfl ?_
      kst_mem
      refine g_items okb h6 h7.handed ?_
      kst_mem
      refine l_item h7 (by omega) (by omega) hu ?_
      kst_mem
      refine g_items okb k1 k2.handed ?_
      kst_mem
      obtain ⟨us, hu2, hu3⟩ := k2
      exact i_copy hu2 (by rw [hu3.length]; exact hz ns rfl) fun u' I2 s2 hu' => q _ _ (by kqd_sub) ⟨us, hu', hu3⟩
theorem c_law_as (ok : a.Ok 1) {k k' : Kd} {t t' v d} {I₀ : Led} (hv : DatIn I₀ v d) (hd' : ItK k d) (q : ∀ v I', I ⊆ I' → DatIn I' v (cv k k' d) → Q v M I') (s₀ : I₀ ⊆ I := by kqd_sub) : Ex a (call (.ref 647) [v, .str k.s t, .str k'.s t']) m M I Q X := by
  refine' Ex_call (binds := [("held", v), ("sort", .str k.s t), ("wanted", .str k'.s t')]) ok ?ho ?hcd ?hb ?hk ?hnd ?hco ?hgen ?hkk ?_
  ktr_room
  intro b okb hwb fm
  kst_mem
  by_cases hn : v = .none
  · subst hn
    cases hv
    kst_mem
    exact q _ _ (by kqd_sub) (by rw [show cv k k' .none = .none by cases k <;> cases k' <;> rfl]; exact .none)
  · rw [show (v == Value.none) = false by simpa using hn]
    kst_mem
    by_cases hk : k = .d
    · subst hk
      rw [show (Kd.d.s == ("double" : Str)) = true by decide +kernel]
      kst_mem
      exact q _ _ (by kqd_sub) (by rw [show cv .d k' d = d by cases k' <;> rfl]; exact hv.mono (sb s₀))
    · rw [show (k.s == ("double" : Str)) = false by cases k <;> first | exact absurd rfl hk | decide +kernel]
      kst_mem
      by_cases hk' : k' = .d
      · subst hk'
        rw [show (Kd.d.s != ("double" : Str)) = false by decide +kernel]
        kst_mem
        refine ⟨Nat.le_of_ble_eq_true rfl, fun r => ?_⟩
        obtain rfl | ⟨i, rfl⟩ : d = .none ∨ ∃ n, d = .int n := by cases k <;> first | exact absurd rfl hk | exact hd'
        · cases hv; exact absurd rfl hn
        · refine q _ _ (by kqd_sub) ?_
          rw [show cv k .d (.int i) = .tuple [.int i, .int 1] by cases k <;> first | exact absurd rfl hk | rfl]
          exact .tuple (.head _) (.cons (hv.mono (sb (by kqd_sub))) (.cons (.int _ _) .nil))
      · rw [show (k'.s != ("double" : Str)) = true by cases k' <;> first | exact absurd rfl hk' | decide +kernel]
        kst_mem
        exact q _ _ (by kqd_sub) (by rw [show cv k k' d = d by cases k <;> cases k' <;> first | rfl | exact absurd rfl hk']; exact hv.mono (sb s₀))
theorem g_dimv (ok : a.Ok n) (hw : a.w = w) {v A} {I₀ : Led} (hv : MatI w I₀ v A) (q : ∀ dv ds t1 t2 av kvs, VecI I₀ dv "integer" ds .none → LiI I₀ ds [.int (A.n : Int) t1, .int (A.cols.length : Int) t2] → DicI w I₀ av kvs → valueAt kvs "dim" = some dv → Q av M I) (s₀ : I₀ ⊆ I := by kqd_sub) : Ex a (getAttr v "attrs" true) m M I Q X := by
  obtain ⟨iv, vs, av, dv, ds, h1, h2, h3, ⟨t1, t2, h4, h4'⟩, h5⟩ := hv
  obtain ⟨kvs, hk, hx⟩ := h5.dim
  exact g_attrs ok h1 hk.handed (q _ _ _ _ _ _ h4 h4' hk hx)
theorem c_law_whole (ok : a.Ok 2) (hw : a.w = w) {v A} {I₀ : Led} (hv : MatI w I₀ v A) (z0 : Zn A.rn) (z1 : Zn A.cn) (q : ∀ u I', I ⊆ I' → DatIn I' u (whole A) → Q u M I') (s₀ : I₀ ⊆ I := by kqd_sub) : Ex a (call (.ref 654) [v]) m M I Q X := by
  have hv0 := hv
  obtain ⟨iv, vs, av, dv, ds, h1, h2, h3, ⟨t1, t2, h4, h4'⟩, h5⟩ := hv0
  obtain ⟨kvs, hk, hx⟩ := h5.dim
  refine' Ex_call (binds := [("block", v)]) ok ?ho ?hcd ?hb ?hk ?hnd ?hco ?hgen ?hkk ?_
  ktr_room
  intro b okb hwb fm
  kst_mem
  refine g_kind okb h1 fun t3 => ?_
  kst_mem
  refine g_items okb h1 h2.handed ?_
  kst_mem
  refine g_attrs okb h1 hk.handed ?_
  kst_mem
  refine d_item (hwb.trans hw) hk hx ?_
  kst_mem
  refine g_items okb h4 h4'.handed ?_
  kst_mem
  refine c_law_names (k := 0) okb (hwb.trans hw) (by decide) hv z0 fun u0 I1 s1 hu0 => ?_
  kst_mem
  refine c_law_names (k := 1) okb (hwb.trans hw) (by decide) hv z1 fun u1 I2 s2 hu1 => ?_
  kst_mem
  refine ⟨Nat.le_of_ble_eq_true rfl, fun r => ?_⟩
  refine q _ _ (by kqd_sub) (.tuple (.head _) (.cons (.str _ _) (.cons ((h2.dat h3).mono (sb (by kqd_sub))) (.cons ((LiI.dat h4' (.cons (.int _ _) (.cons (.int _ _) .nil))).mono (sb (by kqd_sub))) (.cons ((NmI.dat hu0).mono (sb (by kqd_sub))) (.cons ((NmI.dat hu1).mono (sb (by kqd_sub))) .nil))))))
theorem c_law_widest (ok : a.Ok 1) (hw : a.w = w) {bv vs} {Bs : List Mt} {I₀ : Led} (hb : LiI I₀ bv vs) (hbs : MtsI w I₀ vs Bs) (q : ∀ t I', I ⊆ I' → Q (.str (kmax (Bs.map (·.kind))).s t) M I') (s₀ : I₀ ⊆ I := by kqd_sub) : Ex a (call (.ref 640) [bv]) m M I Q X := by
  have hl := hbs.len
  refine' Ex_call (binds := [("blocks", bv)]) ok ?ho ?hcd ?hb ?hk ?hnd ?hco ?hgen ?hkk ?_
  ktr_room
  intro b okb hwb fm
  kst_mem
  with_reducible refine' X_for_list okb fm ?f1 ?f2 ?_
  case f1 => k_places
  case f2 => exact fun _ => rfl
  refine .fz ?_
  kst_mem
  rename_i ta tb
  let J_1 : Nat → Map → Led → Led → Prop := fun i m' M' I' => m' "blocks" = some bv ∧ M' = M ∧ (1 ≤ i → ∀ A ∈ Bs, A.kind ≠ .d) ∧ (2 ≤ i → ∀ A ∈ Bs, A.kind ≠ .i)
  refine ⟨Nat.le_of_ble_eq_true rfl, fun r => ⟨_, _, .step .refl, r, _, 0, rfl, .head _, J_1, ⟨by kp_flats, rfl, by omega, by omega⟩, ?_, ?_⟩⟩
  · rintro i v m₁ M₁ I₁ hv hI₁ ⟨e1, rfl, g1, g2⟩
    obtain ⟨k, tk, rfl, hk1, hk2, hk3⟩ : ∃ (k : Kd) (tk : Tok), v = .str k.s tk ∧ (i = 0 → k = .d) ∧ (i = 1 → k = .i) ∧ i < 2 := by
      match i, hv with
      | 0, hv => cases hv; exact ⟨.d, _, rfl, fun _ => rfl, (fun h => by omega), by omega⟩
      | 1, hv => cases hv; exact ⟨.i, _, rfl, (fun h => by omega), fun _ => rfl, by omega⟩
      | (_ + 2), hv => cases hv
    kst_mem
    with_reducible refine' X_for_list okb fm ?f1 ?f2 ?_
    case f1 => k_places
    case f2 => exact fun _ => rfl
    kst_mem
    obtain ⟨l, c, rfl, hl'⟩ := hb.mono (I' := I₁) (by kqd_sub)
    let J_2 : Nat → Map → Led → Led → Prop := fun j m' M' I' => m' "blocks" = some (.ref l) ∧ m' "sort" = some (.str k.s tk) ∧ M' = M₁ ∧ ∀ A ∈ Bs.take j, A.kind ≠ k
    refine ⟨l, vs, c, rfl, hl', J_2, ⟨by kp_flats, by kp_flats, rfl, fun A h => by simp at h⟩, ?_, ?_⟩
    · rintro j u m₂ M₂ I₂ hu hI₂ ⟨f1, f2, rfl, f3⟩
      obtain ⟨A, hA, hAv⟩ := hbs.get hu
      have hAv0 := hAv
      obtain ⟨iv, vs', av, dv, ds, h1, h2, h3, h4, h5⟩ := hAv0
      kst_mem
      refine g_kind okb h1 fun _ => ?_
      kst_mem
      by_cases hk : A.kind = k
      · rw [hk, show (k.s == k.s) = true by simp]
        kst_mem
        have hmem := List.mem_of_getElem? hA
        have e : kmax (Bs.map (·.kind)) = k := by
          have h1 : k.o ≤ (kmax (Bs.map (·.kind))).o := kmax_ge (by rw [← hk]; exact List.mem_map.mpr ⟨A, hmem, rfl⟩)
          obtain rfl | rfl : i = 0 ∨ i = 1 := by omega
          · have := hk1 rfl; subst this
            cases hx : kmax (Bs.map (·.kind)) <;> rw [hx] at h1 <;> first | rfl | (simp [Kd.o] at h1)
          · have := hk2 rfl; subst this
            have h2 : kmo (Bs.map (·.kind)) ≤ 2 := by
              refine kmo_bound fun x hx => ?_
              obtain ⟨B, hB, rfl⟩ := List.mem_map.mp hx
              have := g1 (by omega) B hB
              cases hx : B.kind <;> first | decide | exact absurd hx this
            have h3 := kmo_mem (List.mem_map.mpr ⟨A, hmem, rfl⟩ : A.kind ∈ Bs.map (·.kind))
            rw [hk] at h3
            have h4 : kmo (Bs.map (·.kind)) = 2 := Nat.le_antisymm h2 h3
            unfold kmax; rw [h4]; rfl
        have := q tk I₂ (by kqd_sub)
        rw [e] at this
        exact this
      · rw [show (A.kind.s == k.s) = false by cases hx : A.kind <;> cases k <;> first | exact absurd hx hk | decide +kernel]
        kst_mem
        refine ⟨by kp_flats, by kp_flats, rfl, fun B hB => ?_⟩
        rw [List.take_add_one, hA] at hB
        rcases List.mem_append.mp hB with h | h
        · exact f3 B h
        · rw [List.mem_singleton.mp h]; exact hk
    · rintro m₂ M₂ I₂ hI₂ ⟨f1, f2, rfl, f3⟩
      rw [hl, List.take_length] at f3
      kst_mem
      refine ⟨by kp_flats, rfl, fun _ => ?_, fun _ => ?_⟩
      · by_cases hi : i = 0
        · rw [← hk1 hi]; exact f3
        · exact g1 (by omega)
      · rw [← hk2 (by omega)]; exact f3
  · rintro m₁ M₁ I₁ hI₁ ⟨e1, rfl, g1, g2⟩
    kst_mem
    have e : kmax (Bs.map (·.kind)) = .l := by
      have h2 : kmo (Bs.map (·.kind)) ≤ 1 := by
        refine kmo_bound fun x hx => ?_
        obtain ⟨B, hB, rfl⟩ := List.mem_map.mp hx
        have z1 := g1 (by simp) B hB
        have z2 := g2 (by simp) B hB
        cases hx : B.kind <;> first | decide | exact absurd hx z1 | exact absurd hx z2
      unfold kmax
      obtain h | h : kmo (Bs.map (·.kind)) = 0 ∨ kmo (Bs.map (·.kind)) = 1 := by omega
      · rw [h]; rfl
      · rw [h]; rfl
    rw [e] at q
    exact q _ _ (by kqd_sub)
end
end
section
noncomputable def dCol (K : Kd) (c : Nat) (B : Mt) : List Dat := (B.cols.getD c []).map (cv B.kind K)
noncomputable def dueCol (K : Kd) (Bs : List Mt) (c : Nat) : List Dat := (Bs.map (dCol K c)).flatten
noncomputable def dueItems (K : Kd) (Bs : List Mt) (W : Nat) : List Dat := ((List.range W).map (dueCol K Bs)).flatten
noncomputable def bRows (B : Mt) : List Str := B.rn.getD (List.replicate B.n ("" : Str))
noncomputable def dueRows (Bs : List Mt) : List Str := (Bs.map bRows).flatten
noncomputable def someOf (l : List Str) : Option (List Str) := if l.any (· != ("" : Str)) then some l else none
noncomputable def due (Bs : List Mt) (W : Nat) : Dat := .tuple [.str (kmax (Bs.map (·.kind))).s, .list (dueItems (kmax (Bs.map (·.kind))) Bs W), .list [.int (((Bs.map (·.n)).sum : Nat) : Int), .int (W : Int)], nmD (someOf (dueRows Bs)), nmD (Bs.findSome? (·.cn))]
structure Bk (W : Nat) (B : Mt) : Prop where
  gd : B.Gd
  n : B.n ≤ 3
  c : B.cols.length = W
  rn : NsOk B.rn
  cn : NsOk B.cn
theorem bRows_len {W B} (h : Bk W B) : (bRows B).length = B.n := by
  unfold bRows
  cases e : B.rn with
  | none => simp
  | some ns => exact h.gd.rn ns e
theorem bRows_ok {W B} (h : Bk W B) : ∀ x ∈ bRows B, StOk x := by
  unfold bRows
  cases e : B.rn with
  | none => intro x hx; rw [(List.mem_replicate.mp hx).2]; exact ⟨by decide +kernel, by decide +kernel⟩
  | some ns => exact h.rn ns e
theorem dueRows_len {W : Nat} : ∀ {Bs : List Mt}, (∀ B ∈ Bs, Bk W B) → (dueRows Bs).length = (Bs.map (·.n)).sum
  | [], _ => rfl
  | B :: r, h => by
    have ih := dueRows_len (W := W) (Bs := r) fun B hB => h B (.tail _ hB)
    unfold dueRows at ih ⊢
    rw [List.map_cons, List.flatten_cons, List.length_append, ih, List.map_cons, List.sum_cons, bRows_len (h B (.head _))]
theorem sum_le {W : Nat} : ∀ {Bs : List Mt}, (∀ B ∈ Bs, Bk W B) → (Bs.map (·.n)).sum ≤ 3 * Bs.length
  | [], _ => by simp
  | B :: r, h => by
    have ih := sum_le (W := W) (Bs := r) fun B hB => h B (.tail _ hB)
    have := (h B (.head _)).n
    rw [List.map_cons, List.sum_cons, List.length_cons]; omega
theorem len_sum {k : Nat} : ∀ {l : List Str}, (∀ x ∈ l, x.length ≤ k) → (l.map (·.length)).sum ≤ k * l.length
  | [], _ => by simp
  | x :: r, h => by
    have ih := len_sum (k := k) (l := r) fun y hy => h y (.tail _ hy)
    have := h x (.head _)
    rw [List.map_cons, List.sum_cons, List.length_cons, Nat.mul_succ]; omega
section
variable {X : Post Value} {a : Act} {m : Map} {M I : Led} {n : Nat} {Q : Post Value} {w : World}
theorem Xs.fz {t : Sem Flow} {P : PostS} (h : Xs a t m M I (fun fl m' M' I' => ∃ M'' I'', Fz M' I' M'' I'' ∧ P fl m' M'' I'') X) : Xs a t m M I P X := by
  intro mf G R s hm S
  refine wpAny_mono (h mf G R s hm S) ?_ fun _ _ h => h
  rintro v s' ⟨mf', G', m', M', I', hm', S', hI, hs, M2, I2, f, q⟩
  exact ⟨mf', G', m', M2, I2, hm', (f.sit S').1, hI.trans (f.sit S').2, hs, q⟩
theorem c_law_due (ok : a.Ok 2) (hw : a.w = w) {bv vs tw} {Bs : List Mt} {W : Nat} {I₀ : Led} (hb : LiI I₀ bv vs) (hbs : MtsI w I₀ vs Bs) (hB : ∀ B ∈ Bs, Bk W B) (hW : W ≤ 3) (hn : Bs.length ≤ 3) (q : ∀ u I', I ⊆ I' → DatIn I' u (due Bs W) → Q u M I') (s₀ : I₀ ⊆ I := by kqd_sub) : Ex a (call (.ref 661) [bv, .int (W : Int) tw]) m M I Q X := by
  have hl := hbs.len
  refine .fz ?_
  refine' Ex_call (binds := [("blocks", bv), ("width", .int (W : Int) tw)]) ok ?ho ?hcd ?hb ?hk ?hnd ?hco ?hgen ?hkk ?_
  ktr_room
  intro b okb hwb fm
  kst_mem
  refine c_law_widest okb (hwb.trans hw) hb hbs fun tk I1 s1 => ?_
  have hKle : ∀ B ∈ Bs, B.kind.o ≤ (kmax (Bs.map (·.kind))).o := fun B h => kmax_ge (List.mem_map.mpr ⟨B, h, rfl⟩)
  unfold due at q
  generalize kmax (Bs.map (·.kind)) = K at *
  kst_mem
  refine ⟨Nat.le_of_ble_eq_true rfl, fun D1 => ?_⟩
  isplit
  refine Xs.cons ?_
  with_reducible refine' X_for_range okb fm ?f1 ?f2 ?_
  case f1 => k_places
  case f2 => exact fun _ => rfl
  kst_mem
  refine range_1 fun r u1 u2 u3 => ?_
  let J_1 : Nat → Map → Led → Led → Prop := fun i m' M' I' => (m' "blocks" = some bv ∧ m' "width" = some (.int (W : Int) tw) ∧ m' "sort" = some (.str K.s tk) ∧ m' "items" = some (.ref D1)) ∧ ∃ ys c, M' = (D1, Li ys c) :: M ∧ ys.length ≤ 9 * i ∧ DatAll I' ys ((List.range i).map (dueCol K Bs)).flatten
  refine ⟨r, W, _, _, _, rfl, .head _, by omega, J_1, ⟨⟨by kp_flats, by kp_flats, by kp_flats, by kp_flats⟩, [], 0, rfl, by simp, .nil⟩, ?_, ?_⟩
  · rintro i t m₁ M₁ I₁ hi hI₁ ⟨⟨e1, e2, e3, e4⟩, ys, c, rfl, hyl, hy⟩
    kst_mem
    with_reducible refine' X_for_list okb fm ?f1 ?f2 ?_
    case f1 => k_places
    case f2 => exact fun _ => rfl
    kst_mem
    obtain ⟨l, cl, rfl, hl'⟩ := hb.mono (I' := I₁) (by kqd_sub)
    let J_2 : Nat → Map → Led → Led → Prop := fun j m' M' I' => (m' "blocks" = some (.ref l) ∧ m' "width" = some (.int (W : Int) tw) ∧ m' "sort" = some (.str K.s tk) ∧ m' "items" = some (.ref D1) ∧ m' "column" = some (.int (i : Int) t)) ∧ ∃ ys c, M' = (D1, Li ys c) :: M ∧ ys.length ≤ 9 * i + 3 * j ∧ DatAll I' ys (((List.range i).map (dueCol K Bs)).flatten ++ ((Bs.take j).map (dCol K i)).flatten)
    refine ⟨l, vs, cl, rfl, hl', J_2, ⟨⟨by kp_flats, by kp_flats, by kp_flats, by kp_flats, by kp_flats⟩, ys, c, rfl, by omega, by simpa using hy⟩, ?_, ?_⟩
    · rintro j v m₂ M₂ I₂ hv hI₂ ⟨⟨f1, f2, f3, f4, f5⟩, ys, c, rfl, hyl, hy⟩
      obtain ⟨B, hBj, hBv⟩ := hbs.get hv
      have hBm := List.mem_of_getElem? hBj
      have bk := hB B hBm
      have hj : j < Bs.length := (List.getElem?_eq_some_iff.mp hBj).1
      obtain ⟨iv, vs', av, dv, ds, h1, h2, h3, ⟨t1, t2, h4, h4'⟩, h5⟩ := hBv
      obtain ⟨kvs, hk, hx⟩ := h5.dim
      have hBn := bk.n
      have hBc := bk.c
      kst_mem
      refine g_attrs okb h1 hk.handed ?_
      kst_mem
      refine d_item (hwb.trans hw) hk hx ?_
      kst_mem
      refine g_items okb h4 h4'.handed ?_
      kst_mem
      refine l_item h4' (by decide) (by decide) rfl ?_
      kst_mem
      with_reducible refine' X_for_range okb fm ?f1 ?f2 ?_
      case f1 => k_places
      case f2 => exact fun _ => rfl
      kst_mem
      refine range_1 fun r u1 u2 u3 => ?_
      have hci : B.cols[i]? = some B.cols[i] := List.getElem?_eq_getElem (by omega)
      have hcl : B.cols[i].length = B.n := bk.gd.wf.col _ (List.getElem_mem _)
      have hcm : B.cols[i] ∈ B.cols := List.getElem_mem _
      have hdc : dCol K i B = B.cols[i].map (cv B.kind K) := by unfold dCol; rw [List.getD_eq_getElem?_getD, hci]; rfl
      generalize B.cols[i] = col at hci hcl hcm hdc
      refine ⟨r, B.n, _, _, _, rfl, .head _, by omega, fun p m' M' I' => (m' "blocks" = some (.ref l) ∧ m' "width" = some (.int (W : Int) tw) ∧ m' "sort" = some (.str K.s tk) ∧ m' "items" = some (.ref D1) ∧ m' "column" = some (.int (i : Int) t) ∧ m' "block" = some v ∧ m' "height" = some (.int (B.n : Int) t1)) ∧ ∃ ys c, M' = (D1, Li ys c) :: M ∧ ys.length ≤ 9 * i + 3 * j + p ∧ DatAll I' ys (((List.range i).map (dueCol K Bs)).flatten ++ ((Bs.take j).map (dCol K i)).flatten ++ (col.take p).map (cv B.kind K)), ⟨⟨by kp_flats, by kp_flats, by kp_flats, by kp_flats, by kp_flats, by kp_flats, by kp_flats⟩, ys, c, rfl, by omega, by simpa using hy.mono (sb (by kqd_sub))⟩, ?_, ?_⟩
      · rintro p t' m₃ M₃ I₃ hp hI₃ ⟨⟨g1, g2, g3, g4, g5, g6, g7⟩, ys, c, rfl, hyl, hy⟩
        have hxp : col[p]? = some (col[p]'(by omega)) := List.getElem?_eq_getElem (by omega)
        have hxm : col[p]'(by omega) ∈ col := List.getElem_mem _
        generalize col[p]'(by omega) = x at hxp hxm
        obtain ⟨u, hu1, hu2⟩ := DatAll.at h3 (flat_at bk.gd.wf.col hci hxp)
        have hub : i * B.n + p < vs'.length := (List.getElem?_eq_some_iff.mp hu1).1
        have hvl : vs'.length ≤ 400 := by rw [h3.length]; exact bk.gd.wf.flat
        have e6 : ((i : Int) * (B.n : Int) + (p : Int)) = ((i * B.n + p : Nat) : Int) := by push_cast; rfl
        kst_mem
        refine E_append _ ?_
        kst_mem
        refine ⟨D1, ys, c, rfl, .ofM (.head _), ?_⟩
        kst_mem
        refine g_items okb h1 h2.handed ?_
        kst_mem
        refine mul_ii (small_mul (by omega) (by omega) (by omega) (by omega)) fun _ => ?_
        kst_mem
        refine l_item h2 (by rw [e6]; omega) (by rw [e6]; omega) (by rw [e6]; exact hu1) ?_
        kst_mem
        refine g_kind okb h1 fun _ => ?_
        kst_mem
        refine c_law_as okb hu2 (bk.gd.it col hcm x hxm) fun u' I4 s4 hu' => ?_
        kst_mem
        refine ⟨_, _, _, .head, Nat.le_trans (by omega : ys.length ≤ 1000) (by decide), ?_⟩
        kst_mem
        refine ⟨⟨by kp_flats, by kp_flats, by kp_flats, by kp_flats, by kp_flats, by kp_flats, by kp_flats⟩, _, _, rfl, by simp; omega, ?_⟩
        rw [List.take_add_one, hxp, List.map_append, ← List.append_assoc]
        exact (hy.mono (sb (by kqd_sub))).append (.one hu')
      · rintro m₃ M₃ I₃ hI₃ ⟨⟨g1, g2, g3, g4, g5, g6, g7⟩, ys, c, rfl, hyl, hy⟩
        kst_mem
        refine ⟨⟨by kp_flats, by kp_flats, by kp_flats, by kp_flats, by kp_flats⟩, _, _, rfl, by omega, ?_⟩
        rw [← hcl, List.take_length, ← hdc] at hy
        rw [List.take_add_one, hBj, List.map_append, List.flatten_append, ← List.append_assoc]
        simpa using hy
    · rintro m₂ M₂ I₂ hI₂ ⟨⟨f1, f2, f3, f4, f5⟩, ys, c, rfl, hyl, hy⟩
      rw [hl, List.take_length] at hy
      kst_mem
      refine ⟨⟨by kp_flats, by kp_flats, by kp_flats, by kp_flats⟩, _, _, rfl, by omega, ?_⟩
      rw [List.range_succ, List.map_append, List.flatten_append]
      simpa [dueCol] using hy
  · rintro m₁ M₁ I₁ hI₁ ⟨⟨e1, e2, e3, e4⟩, ys, c, rfl, hyl, hy⟩
    isplit
    refine Xs.freeze ?_
    kst_mem
    refine ⟨Nat.le_of_ble_eq_true rfl, fun D2 => ?_⟩
    isplit
    refine Xs.freeze ?_
    kst_mem
    rename_i tt
    have hsum : ∀ j, ((Bs.take j).map (·.n)).sum ≤ 9 := fun j => by
      have h1 := sum_le (W := W) (Bs := Bs.take j) fun B h => hB B (List.mem_of_mem_take h)
      have h2 : (Bs.take j).length ≤ 3 := by rw [List.length_take]; omega
      omega
    with_reducible refine' X_for_list okb fm ?f1 ?f2 ?_
    case f1 => k_places
    case f2 => exact fun _ => rfl
    kst_mem
    obtain ⟨l, cl, rfl, hl'⟩ := hb.mono (I' := (D2, Li [] 0) :: (D1, Li ys c) :: I₁) (by kqd_sub)
    let J_3 : Nat → Map → Led → Led → Prop := fun j m' M' I' => (m' "blocks" = some (.ref l) ∧ m' "width" = some (.int (W : Int) tw) ∧ m' "sort" = some (.str K.s tk) ∧ m' "items" = some (.ref D1)) ∧ M' = M ∧ (∃ rv, m' "rows_said" = some rv ∧ TxI I' rv (dueRows (Bs.take j))) ∧ (∃ cvv, m' "columns_said" = some cvv ∧ NmI I' cvv ((Bs.take j).findSome? (·.cn))) ∧ ∃ t, m' "total" = some (.int ((((Bs.take j).map (·.n)).sum : Nat) : Int) t)
    refine ⟨l, vs, cl, rfl, hl', J_3,
      ⟨⟨by kp_flats, by kp_flats, by kp_flats, by kp_flats⟩, rfl, ⟨.ref D2, by kp_flats, [], ⟨D2, 0, rfl, .head _⟩, .nil⟩, ⟨.none, by kp_flats, rfl⟩, tt, by kp_flats⟩, ?_, ?_⟩
    · rintro j v m₂ M₂ I₂ hv hI₂ ⟨⟨f1, f2, f3, f4⟩, rfl, ⟨rv, f5, f6⟩, ⟨cvv, f7, f8⟩, t9, f9⟩
      obtain ⟨B, hBj, hBv⟩ := hbs.get hv
      have hBm := List.mem_of_getElem? hBj
      have bk := hB B hBm
      have hBv0 := hBv
      obtain ⟨iv, vs', av, dv, ds, h1, h2, h3, ⟨t1, t2, h4, h4'⟩, h5⟩ := hBv0
      obtain ⟨kvs, hk, hx⟩ := h5.dim
      have hBn := bk.n
      have hrl : (dueRows (Bs.take j)).length ≤ 9 := by
        rw [dueRows_len (W := W) fun B h => hB B (List.mem_of_mem_take h)]; exact hsum j
      have hnr : dueRows (Bs.take (j + 1)) = dueRows (Bs.take j) ++ bRows B := by
        unfold dueRows; rw [List.take_add_one, hBj, List.map_append, List.flatten_append]; simp
      have hns : ((Bs.take (j + 1)).map (·.n)).sum = ((Bs.take j).map (·.n)).sum + B.n := by
        rw [List.take_add_one, hBj, List.map_append, List.sum_append]; simp
      have hncl : (Bs.take (j + 1)).findSome? (·.cn) = ((Bs.take j).findSome? (·.cn)).or B.cn := by
        rw [List.take_add_one, hBj, List.findSome?_append]; simp
      kst_mem
      refine g_attrs okb h1 hk.handed ?_
      kst_mem
      refine d_item (hwb.trans hw) hk hx ?_
      kst_mem
      refine g_items okb h4 h4'.handed ?_
      kst_mem
      refine l_item h4' (by decide) (by decide) rfl ?_
      kst_mem
      rename_i t10 tz
      have et : ((((Bs.take j).map (·.n)).sum : Nat) : Int) + (B.n : Int) = ((((Bs.take (j + 1)).map (·.n)).sum : Nat) : Int) := by rw [hns]; push_cast; rfl
      rw [et]
      refine c_law_names (k := 0) (okb.le (by decide)) (hwb.trans hw) (by decide) hBv bk.gd.wf.z0 fun u0 I3 s3 hu0 => ?_
      rw [if_pos rfl] at hu0
      isplit
      refine Xs.cons ?_
      refine Xs.cut (fun fl m' L' I' => fl = .next ∧ (m' "blocks" = some (.ref l) ∧ m' "width" = some (.int (W : Int) tw) ∧ m' "sort" = some (.str K.s tk) ∧ m' "items" = some (.ref D1) ∧ m' "block" = some v ∧ m' "columns_said" = some cvv ∧ m' "total" = some (.int ((((Bs.take (j + 1)).map (·.n)).sum : Nat) : Int) t10)) ∧ (∃ rv, m' "rows_said" = some rv ∧ TxI I' rv (dueRows (Bs.take (j + 1)))) ∧ L' = M₂) ?_ ?_
      · refine .fz ?_
        obtain ⟨us, ⟨lr, cr, rfl, hlr⟩, hus⟩ := f6
        have husl := hus.length
        have hbl : (bRows B).length = B.n := bRows_len bk
        kst_mem
        cases hrn : B.rn with
        | none =>
          rw [hrn] at hu0
          rw [show u0 = .none from hu0]
          have hbr : bRows B = List.replicate B.n ("" : Str) := by unfold bRows; rw [hrn]; rfl
          kst_mem
          refine ⟨Nat.le_of_ble_eq_true rfl, fun D8 => ?_⟩
          kst_mem
          refine mul_li (.ofM (.head _)) (by omega) fun D9 => ?_
          kst_mem
          refine add_li (.ofI (s3 hlr)) (.ofM (.head _)) (Nat.le_trans (show us.length + (List.replicate B.n _).length ≤ 1000 by rw [List.length_replicate]; omega) (by decide)) fun D10 => ?_
          kst_mem
          refine ⟨_, _, .step (.step (.step .refl)), rfl, ⟨by kp_flats, by kp_flats, by kp_flats, by kp_flats, by kp_flats, by kp_flats, by kp_flats⟩, ⟨.ref D10, by kp_flats, _, ⟨D10, 0, rfl, .tail _ (.tail _ (.head _))⟩, ?_⟩, rfl⟩
          rw [hnr, hbr]
          exact strsAre_append hus strs_rep
        | some ns =>
          rw [hrn] at hu0
          rw [TxI.ne hu0]
          have hbr : bRows B = ns := by unfold bRows; rw [hrn]; rfl
          obtain ⟨us2, ⟨lr2, cr2, rfl, hlr2⟩, hus2⟩ := hu0
          have husl2 := hus2.length
          kst_mem
          refine add_li (.ofI (s3 hlr)) (.ofI hlr2) (Nat.le_trans (show us.length + us2.length ≤ 1000 by rw [husl2, ← hbr, hbl]; omega) (by decide)) fun D10 => ?_
          kst_mem
          refine ⟨_, _, .step .refl, rfl, ⟨by kp_flats, by kp_flats, by kp_flats, by kp_flats, by kp_flats, by kp_flats, by kp_flats⟩, ⟨.ref D10, by kp_flats, _, ⟨D10, 0, rfl, .head _⟩, ?_⟩, rfl⟩
          rw [hnr, hbr]
          exact strsAre_append hus hus2
      · rintro fl m₃ L₃ I₃' hI₃' ⟨rfl, ⟨g1, g2, g3, g4, g5, g6, g7⟩, ⟨rv', g8, g9⟩, rfl⟩
        kst_mem
        cases hf : (Bs.take j).findSome? (·.cn) with
        | none =>
          rw [hf] at f8
          rw [show (cvv == Value.none) = true by rw [show cvv = .none from f8]; rfl]
          kst_mem
          refine c_law_names (k := 1) (okb.le (by decide)) (hwb.trans hw) (by decide) hBv bk.gd.wf.z1 (fun u1 I4 s4 hu1 => ?_) (by kqd_sub)
          rw [if_neg (by decide)] at hu1
          kst_mem
          refine ⟨⟨by kp_flats, by kp_flats, by kp_flats, by kp_flats⟩, rfl, ⟨rv', by kp_flats, g9.mono (by kqd_sub)⟩, ⟨u1, by kp_flats, ?_⟩, t10, by kp_flats⟩
          rw [hncl, hf]; exact hu1
        | some ns =>
          rw [hf] at f8
          rw [show (cvv == Value.none) = false from TxI.ne f8]
          kst_mem
          refine ⟨⟨by kp_flats, by kp_flats, by kp_flats, by kp_flats⟩, rfl, ⟨rv', by kp_flats, g9⟩, ⟨cvv, by kp_flats, ?_⟩, t10, by kp_flats⟩
          rw [hncl, hf]; exact NmI.mono (o := some ns) f8 (by kqd_sub)
    · rintro m₂ M₂ I₂ hI₂ ⟨⟨f1, f2, f3, f4⟩, rfl, ⟨rv, f5, us, f6, f6'⟩, ⟨cvv, f7, f8⟩, t9, f9⟩
      rw [hl, List.take_length] at f6' f8 f9
      have hdl : (dueRows Bs).length ≤ 9 := by
        rw [dueRows_len hB]; have := hsum Bs.length; rwa [List.take_length] at this
      isplit
      refine Xs.cons ?_
      refine Xs.cut (fun fl m' L' I' => fl = .next ∧ (m' "blocks" = some (.ref l) ∧ m' "width" = some (.int (W : Int) tw) ∧ m' "sort" = some (.str K.s tk) ∧ m' "items" = some (.ref D1) ∧ m' "columns_said" = some cvv ∧ m' "total" = some (.int (((Bs.map (·.n)).sum : Nat) : Int) t9)) ∧ (∃ rv, m' "rows_said" = some rv ∧ NmI I' rv (someOf (dueRows Bs))) ∧ L' = M₂) ?_ ?_
      · kst_mem
        refine' E_method (id := "str.join") ?_ ?n1 ?n2 _ ?n3
        case n1 => rfl
        case n2 => rfl
        case n3 => rfl
        kst_mem
        refine ⟨[.str "" _], fun P hP pl => method_join hP, ?_⟩
        kst_mem
        obtain ⟨lr, cr, rfl, hlr⟩ := f6
        have hok : ∀ x ∈ dueRows Bs, StOk x := fun x hx => by
          obtain ⟨g, hg, hx⟩ := List.mem_flatten.mp hx
          obtain ⟨B, hBm, rfl⟩ := List.mem_map.mp hg
          exact bRows_ok (hB B hBm) x hx
        have hls := len_sum (k := 100) (l := dueRows Bs) fun x hx => (hok x hx).1
        refine join_li (.ofI hlr) f6' (by decide +kernel) (by omega) fun t11 => ?_
        kst_mem
        rw [join_empty]
        unfold someOf
        cases hany : (dueRows Bs).any (· != ("" : Str)) with
        | true =>
          kst_mem
          exact ⟨rfl, ⟨by kp_flats, by kp_flats, by kp_flats, by kp_flats, by kp_flats, by kp_flats⟩, ⟨.ref lr, by kp_flats, us, ⟨lr, cr, rfl, hlr⟩, f6'⟩, rfl⟩
        | false =>
          kst_mem
          exact ⟨rfl, ⟨by kp_flats, by kp_flats, by kp_flats, by kp_flats, by kp_flats, by kp_flats⟩, ⟨.none, by kp_flats, rfl⟩, rfl⟩
      · rintro fl m₃ L₃ I₃' hI₃' ⟨rfl, ⟨g1, g2, g3, g4, g6, g7⟩, ⟨rv', g8, g9⟩, rfl⟩
        kst_mem
        refine ⟨Nat.le_of_ble_eq_true rfl, fun D7 => ?_⟩
        kst_mem
        refine ⟨Nat.le_of_ble_eq_true rfl, fun r => ?_⟩
        have hD1 : (D1, Li ys c) ∈ I₃' := hI₃' (hI₂ (.tail _ (.head _)))
        refine ⟨_, _, .step .refl, q _ _ (by kqd_sub) (.tuple (.tail _ (.head _)) (.cons (.str _ _) (.cons (.list (.tail _ (.tail _ hD1)) (hy.mono (sb (by kqd_sub)))) (.cons (.list (.head _) (.cons (.int _ _) (.cons (.int _ _) .nil))) (.cons ((NmI.dat g9).mono (sb (by kqd_sub))) (.cons ((NmI.dat f8).mono (sb (by kqd_sub))) .nil))))))⟩
end
end
section
theorem tr_at {α : Type} {z : α} {n c : Nat} {C : List (List α)} (h : c < n) : (tr z n C)[c]? = some (C.map fun col => col.getD c z) := by
  simp only [tr, List.getElem?_map, List.getElem?_range h, Option.map_some]
noncomputable def vqs (B : Mt) (ds : List Dat) (nm : Option (List Str)) (tl : Option Str) : List PQ := [(.mat B.t, none), (.pln ds nm, tl)]
structure VR (W : Nat) (B : Mt) (ds : List Dat) (nm : Option (List Str)) (tl : Option Str) (R : Mt) : Prop where
  gd : R.Gd
  n : R.n = B.n + 1
  c : R.cols.length = W
  at_ : ∀ c, c < W → ∃ col, R.cols[c]? = some col ∧ col[B.n]? = some (cv .i R.kind (ds.getD (c % ds.length) .none))
  cn : R.cn = B.cn.or nm
  rn : R.rn = someOf (bRows B ++ [tl.getD ""])
theorem bRows_t {B : Mt} : Pt.heads none (.mat B.t) = bRows B := by
  show B.rn.getD (List.replicate (tr _ _ _).length _) = _
  rw [tr_len]; rfl
theorem vrow {W : Nat} {B : Mt} {ds : List Dat} {nm : Option (List Str)} {tl : Option Str} (bk : Bk W B) (hW1 : 1 ≤ W) (hW : W ≤ 3) (hg : (Pt.pln ds nm).Gd W) : (bindBy W (vqs B ds nm tl)).cols.length ≤ 20 ∧ (∀ x ∈ vqs B ds nm tl, x.1.Gd W ∧ x.1.live = true) ∧ VR W B ds nm tl (bindRows W (vqs B ds nm tl)) := by
  have hq : ∀ x ∈ vqs B ds nm tl, x.1.Gd W ∧ x.1.live = true := fun x hx => by
    rcases List.mem_cons.mp hx with rfl | hx
    · exact ⟨⟨bk.gd.t, bk.c⟩, rfl⟩
    · rw [List.mem_singleton.mp hx]; exact ⟨hg, rfl⟩
  have hn := bk.n
  obtain ⟨K, hK⟩ : ∃ K, K = kmax ((vqs B ds nm tl).map (·.1.kind)) := ⟨_, rfl⟩
  have hc : (bindBy W (vqs B ds nm tl)).cols = (B.t.cols.map (·.map (cv B.kind K))) ++ [((List.range W).map fun i => ds.getD (i % ds.length) .none).map (cv .i K)] := by
    rw [hK]
    show List.flatten [_, _] = _
    simp [ccols, Pt.cols, Pt.kind, Mt.t]
  have hl0 : B.t.cols.length = B.n := tr_len
  have hl : (bindBy W (vqs B ds nm tl)).cols.length = B.n + 1 := by rw [hc, List.length_append, List.length_map, hl0]; rfl
  refine ⟨by omega, hq, (bindBy_gd (by simp [vqs]) hq (by omega) hW1 (by omega)).t, hl, tr_len, fun c hcW => ⟨_, tr_at hcW, ?_⟩, ?_, ?_⟩
  · have e : (bindRows W (vqs B ds nm tl)).kind = K := hK.symm
    rw [e, hc, List.map_append, List.getElem?_append_right (by rw [List.length_map, List.length_map, hl0]; exact Nat.le_refl _), List.length_map, List.length_map, hl0, Nat.sub_self]
    simp only [List.map_cons, List.map_nil, List.getElem?_cons_zero, Option.some.injEq]
    rw [List.getD_eq_getElem?_getD, List.getElem?_map, List.getElem?_map, List.getElem?_range hcW]
    rfl
  · show (vqs B ds nm tl).findSome? (fun q => q.1.rown) = _
    unfold vqs
    rw [List.findSome?_cons, List.findSome?_cons]
    have e1 : (Pt.mat B.t, (none : Option Str)).fst.rown = B.cn := rfl
    have e2 : (Pt.pln ds nm, tl).fst.rown = nm := rfl
    rw [e1, e2]
    cases B.cn <;> cases nm <;> rfl
  · have e : ((vqs B ds nm tl).map fun q => q.1.heads q.2).flatten = bRows B ++ [tl.getD ""] := by
      show Pt.heads none (.mat B.t) ++ ([tl.getD ""] ++ []) = _
      rw [bRows_t]; simp
    show (if ((vqs B ds nm tl).map fun q => q.1.heads q.2).flatten.any (· != ("" : Str)) then some ((vqs B ds nm tl).map fun q => q.1.heads q.2).flatten else none) = _
    rw [e]; rfl
theorem kqd_it {k : Kd} {d : Dat} {n : Nat} (h : ItK k d) : kqdOk (n + 1) d = true := by
  cases k
  · rcases h with rfl | ⟨i, rfl⟩ <;> rfl
  · rcases h with rfl | ⟨i, rfl⟩ <;> rfl
  · rcases h with rfl | ⟨i, rfl | rfl⟩ <;> cases n <;> rfl
theorem kqd_list {ds : List Dat} {n : Nat} (h : ∀ d ∈ ds, kqdOk n d = true) : kqdOk (n + 1) (.list ds) = true := by
  show ds.all (kqdOk n) = true
  exact List.all_eq_true.mpr h
theorem kqd_nm {o : Option (List Str)} {n : Nat} (h : NsOk o) : kqdOk (n + 2) (nmD o) = true := by
  cases o with
  | none => rfl
  | some ns =>
    refine kqd_list fun d hd => ?_
    obtain ⟨x, hx, rfl⟩ := List.mem_map.mp hd
    exact (h ns rfl x hx).2
end
section
theorem told_ok : PyData.strOk ("told" : Str) = true := by decide +kernel
theorem n_len : ("n" : Str).length = 1 := by decide +kernel
theorem mkR {α : Type} {R : α → Prop} {p q : List α} (h : ∀ x ∈ p, R x) (k : ∀ x ∈ q, R x) : ∀ x ∈ p ++ q, R x := fun x hx => (List.mem_append.mp hx).elim (h x) (k x)
theorem atI {I : Led} {v d} (M : Led) (h : DatIn I v d) : DatIn (M ++ I) v d := h.mono fun _ h => List.mem_append_right _ h
theorem atIs {I : Led} {v d} (M : Led) (h : DatAll I v d) : DatAll (M ++ I) v d := h.mono fun _ h => List.mem_append_right _ h
theorem kqd_cv {k k' : Kd} {d : Dat} {n : Nat} (h : ItK k d) : kqdOk (n + 1) (cv k k' d) = true := by
  have h1 := kqd_it (n := n) h
  by_cases e : k.o ≤ k'.o
  · exact kqd_it (cv_it e h)
  · have : cv k k' d = d := by cases k <;> cases k' <;> first | rfl | (simp [Kd.o] at e)
    rw [this]; exact h1
theorem same_row {ds : List Dat} {W : Nat} (f : Dat → Dat) (h : ds.length = W) : (List.range W).map (fun i => f (ds.getD (i % ds.length) .none)) = ds.map f := by
  apply List.ext_getElem (by simp [h])
  intro i h1 h2
  have hi : i < ds.length := by simpa using h2
  simp only [List.getElem_map, List.getElem_range, List.getD_eq_getElem?_getD, Nat.mod_eq_of_lt hi, List.getElem?_eq_getElem hi, Option.getD_some]
theorem four_row {W : Nat} (f : Dat → Dat) : (List.range W).map (fun i => f (([Dat.int 4]).getD (i % ([Dat.int 4] : List Dat).length) .none)) = List.replicate W (f (.int 4)) := by
  apply List.ext_getElem (by simp)
  intro i h1 h2
  simp [Nat.mod_one]
theorem dat_rep {I : Led} {v d} (h : DatIn I v d) : ∀ k, DatAll I (List.replicate k v) (List.replicate k d)
  | 0 => .nil
  | k + 1 => .cons h (dat_rep h k)
section
variable {X : Post Value} {a : Act} {m : Map} {M I : Led} {n : Nat} {Q : Post Value} {w : World}
open Classical in
theorem ne_same (ok : a.Ok n) {u v : Value} {d : Dat} (hu : DatIn (M ++ I) u d) (hv : DatIn (M ++ I) v d) (hd' : kqdOk 8 d = true) (h : Q (.bool false) M I) : Ex a (compareOp .NotEq u v) m M I Q X := by
  refine ne_dat ok hu hv hd' hd' ?_
  rw [show (decide (d = d)) = true from decide_eq_true rfl]; exact h
open Classical in
theorem eq_same (ok : a.Ok n) {u v : Value} {d : Dat} (hu : DatIn (M ++ I) u d) (hv : DatIn (M ++ I) v d) (hd' : kqdOk 8 d = true) (h : Q (.bool true) M I) : Ex a (compareOp .Eq u v) m M I Q X := by
  refine eq_dat ok hu hv hd' hd' ?_
  rw [show (decide (d = d)) = true from decide_eq_true rfl]; exact h
theorem c_vector_row (ok : a.Ok 11) (hw : a.w = w) {d o v tw} {n W : Nat} {B : Mt} (M' : Obj → Led) (S : Spot d M') {I₀ : Led} (hc : CaskO w I₀ o n) (hn : n ≤ 500) (hv : MatI w I₀ v B) (bk : Bk W B) (hW1 : 1 ≤ W) (hW : W ≤ 3)
    (q : ∀ o' I', I ⊆ I' → CaskO w I' o' (n + 3) → Q (.bool true) (M' o') I') (s₀ : I₀ ⊆ I := by kqd_sub) : Ex a (call (.ref 666) [.ref d, v, .int (W : Int) tw]) m (M' o) I Q X := by
  refine .fz ?_
  refine' Ex_call (binds := [("cask", .ref d), ("block", v), ("width", .int (W : Int) tw)]) ok ?ho ?hcd ?hb ?hk ?hnd ?hco ?hgen ?hkk ?_
  ktr_room
  intro b okb hwb fm
  kst_mem
  with_reducible refine' X_comp_range okb fm ?c1 ?c2 ?c3 ?c4 ?c5 ?_
  case c1 => exact ⟨rfl, rfl, rfl, rfl, by rw [fm.ce]; rfl⟩
  case c2 => rfl
  case c3 => exact fun _ => rfl
  case c4 => k_places
  case c5 => unfold swapsWith; dsimp only; unfold Env.blockKind Env.kindOf; rw [fm.sc]; rfl
  kst_mem
  refine range_1 fun r u1 u2 u3 => ?_
  let J_1 : Nat → List Value → Led → Led → Prop := fun i ys M₁ I₁ => ∃ o' ds, M₁ = M' o' ∧ CaskO w I₁ o' (n + i) ∧ DatAll I₁ ys ds ∧ ds.length = i ∧ ∀ x ∈ ds, ItK .i x
  refine ⟨r, W, _, _, _, rfl, .head _, by omega, J_1, ⟨o, [], rfl, (hc.le (by omega)).mono (by kqd_sub), .nil, rfl, fun _ h => nomatch h⟩, ?_, ?_⟩
  · rintro C i t ys M₁ I₁ hi hI₁ ⟨o', ds, rfl, hc', hy, hl, hds⟩
    kst_mem
    refine c_next (ways := 9) ((okb.comp (by rfl) C).le (by decide)) (hwb.trans hw) M' S hc' (by omega) (by omega) (by omega) fun g t6 o3 I6 s6 hc3 hg => ?_
    refine ⟨o3, ds ++ [.int g], rfl, hc3.le (by omega), (hy.mono (sb (by kqd_sub))).append (.one (.int _ _)), by simp [hl], fun y hy => ?_⟩
    rcases List.mem_append.mp hy with h | h
    · exact hds y h
    · rw [List.mem_singleton.mp h]; exact .inr ⟨_, rfl⟩
  · rintro ys M₁ I₁ hI₁ ⟨o2, ds, rfl, hc2, hy, hl, hds⟩ D c
    have hyl := hy.length
    kst_mem
    kst_p
    kst_mem
    with_reducible refine' E_comp_range okb ?c1 ?c2 ?c3 ?_
    case c1 => exact ⟨rfl, rfl, rfl, rfl, rfl⟩
    case c2 => rfl
    case c3 => exact fun _ => rfl
    kst_mem
    refine range_1 fun r u1 u2 u3 => ?_
    refine ⟨r, W, _, _, _, rfl, .head _, by omega, fun i ys L₁ I₁ => L₁ = M' o2 ∧ StrsAre ys (axNames "n" i), ⟨rfl, .nil⟩, ?_, ?_⟩
    · rintro C i t ys L₁ I₁ hi hI₁ ⟨rfl, hy⟩
      obtain ⟨z1, z2⟩ := small_str (i := i) (by omega)
      kst_mem
      refine str_i (by rw [Int.natAbs_natCast]; exact Nat.lt_of_le_of_lt (Nat.log2_le_self _) (by omega)) fun t7 => ?_
      kst_mem
      refine add_ss (Nat.le_trans (show ("n" : Str).length + (Str.ofString (toString (i : Int))).length ≤ 1000 by rw [n_len]; omega) (by decide)) fun t8 => ?_
      refine ⟨rfl, ?_⟩
      rw [axNames_succ]
      exact strsAre_append hy (.cons _ _ .nil)
    · rintro zs L₁ I₂ hI₂ ⟨rfl, hz⟩ D2 c2
      kst_mem
      kst_p
      kst_mem
      refine c_character (I₀ := (D2, Li zs c2) :: I₂) (okb.le (by decide)) ⟨zs, ⟨D2, c2, rfl, .head _⟩, hz⟩ (by rw [axNames_len]; omega) fun nv nl I3 s3 hnv hnl => ?_
      kst_mem
      refine ⟨rfl, by simp [strPairs], fun dd od hod lo => ?_⟩
      rw [hwb, hw] at hod
      kst_mem
      kst_p
      refine i_vector3 (okb.le (by decide)) fun row I4 s4 hrow => ?_
      have hpl : PlnI w I4 row ds (some (axNames "n" W)) := ⟨.ref D, ys, .ref dd, hrow, ⟨D, c, rfl, s4 (.tail _ (s3 (.tail _ (hI₂ (.tail _ (.head _))))))⟩, hy.mono (sb (by kqd_sub)), .inr ⟨_, nv, nl, rfl, ⟨dd, od, rfl, s4 (.head _), hod, lo⟩, hnv.mono (by kqd_sub), hnl.mono (by kqd_sub)⟩⟩
      kst_mem
      refine ⟨Nat.le_of_ble_eq_true rfl, fun N => ?_⟩
      isplit
      refine Xs.freeze ?_
      kst_mem
      refine ⟨Nat.le_of_ble_eq_true rfl, fun P1 => ?_⟩
      kst_mem
      rename_i ts
      refine ⟨Nat.le_of_ble_eq_true rfl, fun P2 => ?_⟩
      kst_mem
      kst_p
      kst_p
      have hgd : (Pt.pln ds (some (axNames "n" W))).Gd W := ⟨ne_len hl hW1, by omega, by rw [hl]; exact Nat.mod_self W, fun ns e => by cases e; exact axNames_len, hds⟩
      obtain ⟨hT, hqm, vr⟩ := vrow (tl := some "told") bk hW1 hW hgd
      refine c_bind_rows (w := w) (e := W) (qs := vqs B ds (some (axNames "n" W)) (some "told")) (ps := [.mat B, .pln ds (some (axNames "n" W))]) (ns := [none, some "told"]) (vs := [v, row]) (nvs := [.none, .str "told" ts]) (okb.le (by decide)) (hwb.trans hw) (I₀ := (P1, Li [v, row] 0) :: (P2, Li [.none, .str "told" ts] 0) :: (N, Li [] 0) :: I4) ⟨P1, 0, rfl, .head _⟩ ?_ ⟨P2, 0, rfl, .tail _ (.head _)⟩ ?_ rfl ?_ ?_ rfl (by simp) (by omega) hW1 rfl (by simp [vqs]) hT hqm fun R I5 s5 hR => ?_
      · refine ⟨rfl, fun i p e => ?_⟩
        match i, e with
        | 0, e => cases e; exact ⟨v, rfl, hv.mono (by kqd_sub)⟩
        | 1, e => cases e; exact ⟨row, rfl, hpl.mono (by kqd_sub)⟩
        | (_ + 2), e => cases e
      · intro i nm e
        match i, e with
        | 0, e => cases e; exact ⟨.none, rfl, rfl⟩
        | 1, e => cases e; exact ⟨_, rfl, ts, rfl⟩
        | (_ + 2), e => cases e
      · intro p hp
        rcases List.mem_cons.mp hp with rfl | hp
        · exact ⟨bk.gd.t, bk.c⟩
        · rw [List.mem_singleton.mp hp]; exact hgd
      · intro A hA
        rcases List.mem_cons.mp hA with e | hA
        · cases e; exact bk.gd.wf
        · cases List.mem_singleton.mp hA
      kst_mem
      have hv0 := hv
      obtain ⟨biv, bvs, bav, bdv, bds, b1, b2, b3, ⟨t1, t2, b4, b4'⟩, b5⟩ := hv
      obtain ⟨bkvs, bk1, bk2⟩ := b5.dim
      refine g_attrs okb b1 bk1.handed ?_
      kst_mem
      refine d_item (hwb.trans hw) bk1 bk2 ?_
      kst_mem
      refine g_items okb b4 b4'.handed ?_
      kst_mem
      refine l_item b4' (by decide) (by decide) rfl ?_
      kst_mem
      have hI5N : (N, Li [] 0) ∈ I5 := s5 (.tail _ (.tail _ (.head _)))
      refine ⟨Nat.le_of_ble_eq_true rfl, fun E1 => ?_⟩
      kst_mem
      refine ne_same (d := .list []) okb (.list (List.mem_append_right _ hI5N) .nil) (.list (.head _) .nil) rfl ?_
      isplit
      kst_p
      kst_mem
      generalize hRM : bindRows W (vqs B ds (some (axNames "n" W)) (some "told")) = RM at hR vr
      have hRc : RM.cols.length = W := vr.c
      have hRn : RM.n = B.n + 1 := vr.n
      have hBn := bk.n
      have hR0 := hR
      obtain ⟨riv, rvs, rav, rdv, rds, r1, r2, r3, ⟨rt1, rt2, r4, r4'⟩, r5⟩ := hR0
      obtain ⟨rkvs, rk1, rk2⟩ := r5.dim
      have hrl : rvs.length ≤ 400 := by rw [r3.length]; exact vr.gd.wf.flat
      refine g_attrs okb r1 rk1.handed ?_
      kst_mem
      refine d_item (hwb.trans hw) rk1 rk2 ?_
      kst_mem
      refine g_items okb r4 r4'.handed ?_
      kst_mem
      refine ⟨Nat.le_of_ble_eq_true rfl, fun E2 => ?_⟩
      kst_mem
      have eR : ((RM.n : Nat) : Int) = (B.n : Int) + 1 := by rw [hRn]; push_cast; rfl
      refine ne_same (d := .list [.int ((B.n : Int) + 1), .int (W : Int)]) okb (atI _ ((LiI.dat r4' (by rw [eR, hRc]; exact .cons (.int _ _) (.cons (.int _ _) .nil))).mono (sb (by kqd_sub)))) (.list (.head _) (.cons (.int _ _) (.cons (.int _ _) .nil))) rfl ?_
      isplit
      kst_p
      kst_mem
      with_reducible refine' X_comp_range okb fm ?c1 ?c2 ?c3 ?c4 ?c5 ?_
      case c1 => exact ⟨rfl, rfl, rfl, rfl, by rw [fm.ce]; rfl⟩
      case c2 => rfl
      case c3 => exact fun _ => rfl
      case c4 => k_places
      case c5 => unfold swapsWith; dsimp only; unfold Env.blockKind Env.kindOf; rw [fm.sc]; rfl
      kst_mem
      refine range_1 fun r u1 u2 u3 => ?_
      let J_2 : Nat → List Value → Led → Led → Prop := fun i ys L₁ I₁ => L₁ = M' o2 ∧ DatAll I₁ ys ((List.range i).map fun i => cv .i RM.kind (ds.getD (i % ds.length) .none))
      refine ⟨r, W, _, _, _, rfl, .head _, by omega, J_2, ⟨rfl, .nil⟩, ?_, ?_⟩
      · rintro C i t ys L₁ I₁ hi hI₁ ⟨rfl, hy⟩
        obtain ⟨col, at1, at2⟩ := vr.at_ i hi
        obtain ⟨x, hx1, hx2⟩ := DatAll.at r3 (flat_at vr.gd.wf.col at1 at2)
        have hxb : i * RM.n + B.n < rvs.length := (List.getElem?_eq_some_iff.mp hx1).1
        have e6 : (i : Int) * ((B.n : Int) + 1) + (B.n : Int) = ((i * RM.n + B.n : Nat) : Int) := by rw [← eR]; push_cast; rfl
        kst_mem
        refine g_items (okb.comp (by rfl) C) r1 r2.handed ?_
        kst_mem
        refine mul_ii (small_mul (by omega) (by omega) (by omega) (by omega)) fun t7 => ?_
        kst_mem
        rw [e6]
        refine l_item r2 (by omega) (by omega) (by rw [Int.toNat_natCast]; exact hx1) ⟨rfl, ?_⟩
        rw [List.range_succ, List.map_append]
        exact (hy.mono (sb (by kqd_sub))).append (.one (hx2.mono (sb (by kqd_sub))))
      · rintro ls L₁ I6 hI6 ⟨rfl, hls⟩ E3 c3
        kst_mem
        kst_p
        kst_mem
        with_reducible refine' E_comp_list okb ?c1 ?c2 ?c3 ?_
        case c1 => exact ⟨rfl, rfl, rfl, rfl, by rw [fm.ce]; rfl⟩
        case c2 => rfl
        case c3 => exact fun _ => rfl
        kst_mem
        have hDm : (D, Li ys c) ∈ I6 := (by kqd_sub : (D, Li ys c) :: I₁ ⊆ I6) (.head _)
        let J_3 : Nat → List Value → Led → Led → Prop := fun i zs L₁ I₁ => L₁ = M' o2 ∧ DatAll I₁ zs ((ds.take i).map (cv .i RM.kind))
        refine ⟨D, ys, c, rfl, .tail _ hDm, Nat.le_trans (by omega : ys.length ≤ 1000) (by decide), J_3, ⟨rfl, .nil⟩, ?_, ?_⟩
        · rintro C i x zs L₁ I7 hxi hI7 ⟨rfl, hzs⟩
          have hik : i < ds.length := by rw [← hyl]; exact (List.getElem?_eq_some_iff.mp hxi).1
          obtain ⟨x', hx', hxd⟩ := hy.get hik
          rw [hxi] at hx'; cases hx'
          kst_mem
          refine g_kind (okb.comp (by rfl) C) r1 fun _ => ?_
          kst_mem
          refine c_law_as (k := .i) ((okb.comp (by rfl) C).le (by decide)) hxd (hds _ (List.getElem_mem hik)) (fun u I8 s8 hu => ⟨rfl, ?_⟩) (by kqd_sub)
          rw [List.take_add_one, List.getElem?_eq_getElem hik, List.map_append]
          exact (hzs.mono (sb s8)).append (.one hu)
        · rintro zs L₁ I7 hI7 ⟨rfl, hzs⟩ E4 c4
          rw [hyl, List.take_length] at hzs
          rw [same_row (cv .i RM.kind) hl] at hls
          kst_mem
          have hE3 : (E3, Li ls c3) ∈ I7 := hI7 (.head _)
          refine ne_same (d := .list (ds.map (cv .i RM.kind))) okb (atI _ (.list hE3 (hls.mono (sb (by kqd_sub))))) (.list (.head _) (atIs _ hzs)) (kqd_list fun x hx => ?_) ?_
          · obtain ⟨y, hy', rfl⟩ := List.mem_map.mp hx
            exact kqd_cv (n := 6) (hds y hy')
          isplit
          kst_p
          kst_mem
          have hrn : RM.rn = some (bRows B ++ [("told" : Str)]) := by rw [vr.rn]; exact if_pos (by rw [show ((some ("told" : Str)).getD ("" : Str)) = ("told" : Str) from rfl, List.any_append]; simp +decide)
          refine c_law_names (k := 0) (okb.le (by decide)) (hwb.trans hw) (by decide) hR vr.gd.wf.z0 (fun u0 I8 s8 hu0 => ?_) (by kqd_sub)
          rw [if_pos rfl, hrn] at hu0
          kst_mem
          obtain ⟨us0, hu0, hu0'⟩ := hu0
          obtain ⟨tt, htt⟩ := hu0'.at (j := B.n) (y := "told") (by rw [List.getElem?_append_right (by rw [bRows_len bk]; exact Nat.le_refl _), bRows_len bk, Nat.sub_self]; rfl)
          refine l_item hu0 (by omega) (by omega) (by rw [Int.toNat_natCast]; exact htt) ?_
          kst_mem
          refine c_law_names (k := 1) (okb.le (by decide)) (hwb.trans hw) (by decide) hv0 bk.gd.wf.z1 (fun u1 I9 s9 hu1 => ?_) (by kqd_sub)
          rw [if_neg (by decide)] at hu1
          isplit
          refine Xs.cons ?_
          refine Xs.cut (fun fl m' L' I' => fl = .next ∧ (m' "block" = some v ∧ m' "width" = some (.int (W : Int) tw) ∧ m' "height" = some (.int (B.n : Int) t1) ∧ m' "notes" = some (.ref N)) ∧ L' = M' o2) ?_ ?_
          · refine .fz ?_
            kst_mem
            refine c_law_names (k := 1) (okb.le (by decide)) (hwb.trans hw) (by decide) hR vr.gd.wf.z1 (fun u2 I10 s10 hu2 => ?_) (by kqd_sub)
            rw [if_neg (by decide), vr.cn] at hu2
            kst_mem
            cases hcn : B.cn with
            | some ms =>
              rw [hcn] at hu1 hu2
              rw [TxI.ne hu1]
              kst_mem
              refine ne_same (d := nmD (some ms)) okb (atI _ (NmI.dat (o := some ms) hu2)) (atI _ ((NmI.dat (o := some ms) hu1).mono (sb (by kqd_sub)))) (kqd_nm (n := 6) (fun ns e => bk.cn ns (by rw [hcn]; exact e))) ?_
              kst_mem
              exact ⟨_, _, .refl, rfl, ⟨by kp_flats, by kp_flats, by kp_flats, by kp_flats⟩, rfl⟩
            | none =>
              rw [hcn] at hu1 hu2
              rw [show (u1 == Value.none) = true by rw [show u1 = .none from hu1]; rfl]
              kst_mem
              with_reducible refine' E_comp_range okb ?c1 ?c2 ?c3 ?_
              case c1 => exact ⟨rfl, rfl, rfl, rfl, rfl⟩
              case c2 => rfl
              case c3 => exact fun _ => rfl
              kst_mem
              refine range_1 fun r u1 u2 u3 => ?_
              refine ⟨r, W, _, _, _, rfl, .head _, by omega, fun i ys L₁ I₁ => L₁ = M' o2 ∧ StrsAre ys (axNames "n" i), ⟨rfl, .nil⟩, ?_, ?_⟩
              · rintro C i t ys L₁ I₁ hi hI₁ ⟨rfl, hy⟩
                obtain ⟨z1, z2⟩ := small_str (i := i) (by omega)
                kst_mem
                refine str_i (by rw [Int.natAbs_natCast]; exact Nat.lt_of_le_of_lt (Nat.log2_le_self _) (by omega)) fun t7 => ?_
                kst_mem
                refine add_ss (Nat.le_trans (show ("n" : Str).length + (Str.ofString (toString (i : Int))).length ≤ 1000 by rw [n_len]; omega) (by decide)) fun t8 => ?_
                refine ⟨rfl, ?_⟩
                rw [axNames_succ]
                exact strsAre_append hy (.cons _ _ .nil)
              · rintro zs L₁ I12 hI12 ⟨rfl, hz⟩ D12 c12
                kst_mem
                refine ne_same (d := nmD (some (axNames "n" W))) okb (atI _ ((NmI.dat (o := some _) hu2).mono (sb (by kqd_sub)))) (.list (.head _) (atIs _ (strs_dat hz))) (kqd_nm (n := 6) (axNames_ok (by omega) (by decide +kernel) (by decide +kernel))) ?_
                kst_mem
                exact ⟨_, _, .step .refl, rfl, ⟨by kp_flats, by kp_flats, by kp_flats, by kp_flats⟩, rfl⟩
          · rintro fl m₃ L₃ I₃' hI₃' ⟨rfl, ⟨g1, g2, g3, g4⟩, rfl⟩
            kst_mem
            refine ⟨Nat.le_of_ble_eq_true rfl, fun G1 => ?_⟩
            kst_mem
            rename_i tq
            kst_p
            refine i_vector2 (okb.le (by decide)) fun rw2 I13 s13 hrw2 => ?_
            have hpl2 : PlnI w I13 rw2 [.int 4] none := ⟨.ref G1, [.int 4 tq], .none, hrw2, ⟨G1, 0, rfl, s13 (.head _)⟩, .one (.int _ _), .inl ⟨rfl, rfl⟩⟩
            kst_mem
            refine ⟨Nat.le_of_ble_eq_true rfl, fun P3 => ?_⟩
            kst_mem
            refine ⟨Nat.le_of_ble_eq_true rfl, fun P4 => ?_⟩
            kst_mem
            kst_p
            kst_p
            have hgd2 : (Pt.pln [.int 4] none).Gd W := ⟨by simp, hW1, Nat.mod_one W, (fun ns e => nomatch e), fun x hx => by rw [List.mem_singleton.mp hx]; exact .inr ⟨4, rfl⟩⟩
            obtain ⟨hT2, hqm2, vr2⟩ := vrow (tl := none) bk hW1 hW hgd2
            refine c_bind_rows (w := w) (e := W) (qs := vqs B [.int 4] none none) (ps := [.mat B, .pln [.int 4] none]) (ns := [none, none]) (vs := [v, rw2]) (nvs := [.none, .none]) (okb.le (by decide)) (hwb.trans hw) (I₀ := (P3, Li [v, rw2] 0) :: (P4, Li [.none, .none] 0) :: I13) ⟨P3, 0, rfl, .head _⟩ ?_ ⟨P4, 0, rfl, .tail _ (.head _)⟩ ?_ rfl ?_ ?_ rfl (by simp) (by omega) hW1 rfl (by simp [vqs]) hT2 hqm2 fun R2 I14 s14 hR2 => ?_
            · refine ⟨rfl, fun i p e => ?_⟩
              match i, e with
              | 0, e => cases e; exact ⟨v, rfl, hv0.mono (by kqd_sub)⟩
              | 1, e => cases e; exact ⟨rw2, rfl, hpl2.mono (by kqd_sub)⟩
              | (_ + 2), e => cases e
            · intro i nm e
              match i, e with
              | 0, e => cases e; exact ⟨.none, rfl, rfl⟩
              | 1, e => cases e; exact ⟨.none, rfl, rfl⟩
              | (_ + 2), e => cases e
            · intro p hp
              rcases List.mem_cons.mp hp with rfl | hp
              · exact ⟨bk.gd.t, bk.c⟩
              · rw [List.mem_singleton.mp hp]; exact hgd2
            · intro A hA
              rcases List.mem_cons.mp hA with e | hA
              · cases e; exact bk.gd.wf
              · cases List.mem_singleton.mp hA
            kst_mem
            generalize hRS : bindRows W (vqs B [.int 4] none none) = RS at hR2 vr2
            have hSn : RS.n = B.n + 1 := vr2.n
            have eS : ((RS.n : Nat) : Int) = (B.n : Int) + 1 := by rw [hSn]; push_cast; rfl
            obtain ⟨siv, svs, sav, sdv, sds, q1, q2, q3, q4, q5⟩ := hR2
            have hsl : svs.length ≤ 400 := by rw [q3.length]; exact vr2.gd.wf.flat
            with_reducible refine' X_comp_range okb fm ?c1 ?c2 ?c3 ?c4 ?c5 ?_
            case c1 => exact ⟨rfl, rfl, rfl, rfl, by rw [fm.ce]; rfl⟩
            case c2 => rfl
            case c3 => exact fun _ => rfl
            case c4 => k_places
            case c5 => unfold swapsWith; dsimp only; unfold Env.blockKind Env.kindOf; rw [fm.sc]; rfl
            kst_mem
            refine range_1 fun r u1 u2 u3 => ?_
            let J_4 : Nat → List Value → Led → Led → Prop := fun i ys L₁ I₁ => L₁ = M' o2 ∧ DatAll I₁ ys ((List.range i).map fun i => cv .i RS.kind (([Dat.int 4]).getD (i % ([Dat.int 4] : List Dat).length) .none))
            refine ⟨r, W, _, _, _, rfl, .head _, by omega, J_4, ⟨rfl, .nil⟩, ?_, ?_⟩
            · rintro C i t ys L₁ I₁ hi hI₁ ⟨rfl, hy⟩
              obtain ⟨col, at1, at2⟩ := vr2.at_ i hi
              obtain ⟨x, hx1, hx2⟩ := DatAll.at q3 (flat_at vr2.gd.wf.col at1 at2)
              have hxb : i * RS.n + B.n < svs.length := (List.getElem?_eq_some_iff.mp hx1).1
              have e6 : (i : Int) * ((B.n : Int) + 1) + (B.n : Int) = ((i * RS.n + B.n : Nat) : Int) := by rw [← eS]; push_cast; rfl
              kst_mem
              refine g_items (okb.comp (by rfl) C) q1 q2.handed ?_
              kst_mem
              refine mul_ii (small_mul (by omega) (by omega) (by omega) (by omega)) fun t7 => ?_
              kst_mem
              rw [e6]
              refine l_item q2 (by omega) (by omega) (by rw [Int.toNat_natCast]; exact hx1) ⟨rfl, ?_⟩
              rw [List.range_succ, List.map_append]
              exact (hy.mono (sb (by kqd_sub))).append (.one (hx2.mono (sb (by kqd_sub))))
            · rintro ls L₁ I15 hI15 ⟨rfl, hls⟩ E5 c5
              rw [four_row (cv .i RS.kind)] at hls
              kst_mem
              kst_p
              kst_mem
              refine g_kind okb q1 fun _ => ?_
              kst_mem
              refine c_law_as (k := .i) (okb.le (by decide)) (.int 4 _) (.inr ⟨4, rfl⟩) (fun u I16 s16 hu => ?_) (List.Subset.refl _)
              kst_mem
              refine ⟨Nat.le_of_ble_eq_true rfl, fun E6 => ?_⟩
              kst_mem
              refine mul_li (.ofM (.head _)) (by omega) fun E7 => ?_
              kst_mem
              refine eq_same (d := .list (List.replicate W (cv .i RS.kind (.int 4)))) okb (atI _ (.list (s16 (.head _)) (hls.mono (sb (by kqd_sub))))) (.list (.head _) (dat_rep (atI _ hu) W)) (kqd_list fun x hx => ?_) ?_
              · rw [(List.mem_replicate.mp hx).2]; exact kqd_cv (n := 6) (.inr ⟨4, rfl⟩)
              kst_mem
              have hN : (N, Li [] 0) ∈ I16 := (by kqd_sub : I5 ⊆ I16) hI5N
              refine ⟨Nat.le_of_ble_eq_true rfl, fun E8 => ?_⟩
              kst_mem
              refine eq_same (d := .list []) okb (.list (List.mem_append_right _ hN) .nil) (.list (.head _) .nil) rfl ?_
              exact ⟨_, _, .step (.step (.step .refl)), q o2 _ (by kqd_sub) ((hc2.le (by omega)).mono (by kqd_sub))⟩
end
end
section
/-! the plain law -/
noncomputable def rqs (Bs : List Mt) : List PQ := Bs.map fun B => (.mat B.t, none)
structure Bw (W : Nat) (B : Mt) : Prop where
  gd : B.Gd
  c : B.cols.length = W
theorem Bk.w {W B} (h : Bk W B) : Bw W B := ⟨h.gd, h.c⟩
theorem rqs_kind (Bs : List Mt) : (rqs Bs).map (·.1.kind) = Bs.map (·.kind) := by
  unfold rqs; rw [List.map_map]; rfl
theorem dcol_tr {W : Nat} {K : Kd} {B : Mt} (h : Bw W B) {i : Nat} (hi : i < W) : (B.t.cols.map (·.map (cv B.kind K))).map (·.getD i .none) = dCol K i B := by
  have hc : B.cols[i]? = some (B.cols[i]'(by rw [h.c]; exact hi)) := List.getElem?_eq_getElem _
  have hl : (B.cols[i]'(by rw [h.c]; exact hi)).length = B.n := h.gd.wf.col _ (List.getElem_mem _)
  generalize (B.cols[i]'(by rw [h.c]; exact hi)) = col at hc hl
  have e : dCol K i B = col.map (cv B.kind K) := by unfold dCol; rw [List.getD_eq_getElem?_getD, hc]; rfl
  rw [e]
  have el : (tr Dat.none B.n B.cols).length = B.n := tr_len
  apply List.ext_getElem (by rw [List.length_map, List.length_map, List.length_map, hl]; exact el)
  intro j h1 h2
  have hj : j < B.n := by rw [List.length_map, hl] at h2; exact h2
  have hj2 : j < col.length := by omega
  show (((tr Dat.none B.n B.cols).map (·.map (cv B.kind K))).map (·.getD i .none))[j] = _
  simp only [tr, List.getElem_map, List.getElem_range, List.getD_eq_getElem?_getD, List.getElem?_map, hc, Option.map_some, List.getElem?_eq_getElem hj2, Option.getD_some]
theorem rows_cols {W : Nat} {Bs : List Mt} (h : ∀ B ∈ Bs, Bw W B) : (bindRows W (rqs Bs)).cols = (List.range W).map (dueCol (kmax (Bs.map (·.kind))) Bs) := by
  show tr Dat.none W (bindBy W (rqs Bs)).cols = _
  unfold tr
  apply List.map_congr_left
  intro i hi
  have hi : i < W := List.mem_range.mp hi
  have e : (bindBy W (rqs Bs)).cols = (Bs.map fun B => B.t.cols.map (·.map (cv B.kind (kmax (Bs.map (·.kind)))))).flatten := by
    show ((rqs Bs).map fun q => ccols W (kmax ((rqs Bs).map (·.1.kind))) q.1).flatten = _
    rw [rqs_kind]
    unfold rqs
    rw [List.map_map]; rfl
  rw [e, List.map_flatten, List.map_map]
  unfold dueCol
  congr 1
  apply List.map_congr_left
  intro B hB
  exact dcol_tr (h B hB) hi
theorem rows_n {W : Nat} {Bs : List Mt} : (bindRows W (rqs Bs)).n = (Bs.map (·.n)).sum := by
  show (bindBy W (rqs Bs)).cols.length = _
  show ((rqs Bs).map fun q => ccols W (kmax ((rqs Bs).map (·.1.kind))) q.1).flatten.length = _
  rw [List.length_flatten, List.map_map]
  unfold rqs
  rw [List.map_map]
  congr 1
  apply List.map_congr_left
  intro B _
  show (ccols W _ (.mat B.t)).length = B.n
  unfold ccols Pt.cols
  rw [List.length_map]; exact tr_len
theorem rows_heads {Bs : List Mt} : ((rqs Bs).map fun q => q.1.heads q.2).flatten = dueRows Bs := by
  unfold dueRows rqs
  rw [List.map_map]
  congr 1
  apply List.map_congr_left
  intro B _
  exact bRows_t
theorem rows_rn {W : Nat} {Bs : List Mt} : (bindRows W (rqs Bs)).rn = someOf (dueRows Bs) := by
  show (if (((rqs Bs).map fun q => q.1.heads q.2).flatten.any (· != ("" : Str))) then some ((rqs Bs).map fun q => q.1.heads q.2).flatten else none) = _
  rw [rows_heads]; rfl
theorem rows_cn {W : Nat} {Bs : List Mt} : (bindRows W (rqs Bs)).cn = Bs.findSome? (·.cn) := by
  show (rqs Bs).findSome? (fun q => q.1.rown) = _
  unfold rqs
  rw [List.findSome?_map]; rfl
theorem rows_kind {W : Nat} {Bs : List Mt} : (bindRows W (rqs Bs)).kind = kmax (Bs.map (·.kind)) := by
  show kmax ((rqs Bs).map (·.1.kind)) = _
  rw [rqs_kind]
theorem whole_rows {W : Nat} {Bs : List Mt} (h : ∀ B ∈ Bs, Bw W B) : whole (bindRows W (rqs Bs)) = due Bs W := by
  unfold whole due
  rw [rows_cols h, rows_n, rows_rn, rows_cn, rows_kind]
  simp only [List.length_map, List.length_range]
  rfl
theorem rqs_ok {W : Nat} {Bs : List Mt} (h : ∀ B ∈ Bs, Bw W B) : ∀ x ∈ rqs Bs, x.1.Gd W ∧ x.1.live = true := fun x hx => by
  obtain ⟨B, hB, rfl⟩ := List.mem_map.mp hx
  exact ⟨⟨(h B hB).gd.t, (h B hB).c⟩, rfl⟩
theorem rows_gd {W : Nat} {Bs : List Mt} (h : ∀ B ∈ Bs, Bw W B) (hne : Bs ≠ []) (hW1 : 1 ≤ W) (hW : W ≤ 20) (hs : (Bs.map (·.n)).sum ≤ 20) : (bindBy W (rqs Bs)).cols.length ≤ 20 ∧ (bindBy W (rqs Bs)).Gd ∧ Bw W (bindRows W (rqs Bs)) := by
  have hl : (bindBy W (rqs Bs)).cols.length = (Bs.map (·.n)).sum := rows_n (W := W)
  have g := bindBy_gd (e := W) (qs := rqs Bs) (by simpa [rqs] using hne) (rqs_ok h) hW hW1 (by omega)
  exact ⟨by omega, g, g.t, tr_len⟩
/-- step by step -/
structure Rel (W : Nat) (Bs : List Mt) (S : Mt) : Prop where
  kind : S.kind = kmax (Bs.map (·.kind))
  n : S.n = (Bs.map (·.n)).sum
  cols : S.cols = (List.range W).map (dueCol (kmax (Bs.map (·.kind))) Bs)
  rows : bRows S = dueRows Bs
  cn : S.cn = Bs.findSome? (·.cn)
theorem kmax_app {ks : List Kd} {k : Kd} (h : ks ≠ []) : kmax [kmax ks, k] = kmax (ks ++ [k]) := by
  unfold kmax
  rw [kmo_snoc]
  have h1 := kmo_pos h
  have h3 := kmo_le ks
  have e : kmo [kOf (kmo ks), k] = max (kmo ks) k.o := by
    show max (max 0 (kOf (kmo ks)).o) k.o = _
    rw [kOf_o h1 h3]; simp
  rw [e]
theorem cv_cv {k k1 k2 : Kd} (h1 : k.o ≤ k1.o) (h2 : k1.o ≤ k2.o) {d : Dat} (hd : ItK k d) : cv k1 k2 (cv k k1 d) = cv k k2 d := by
  cases k <;> cases k1 <;> cases k2 <;> first | (simp [Kd.o] at h1; done) | (simp [Kd.o] at h2; done) | skip
  all_goals first
    | rfl
    | (rcases hd with rfl | ⟨n, rfl⟩ <;> rfl)
    | (rcases hd with rfl | ⟨n, rfl | rfl⟩ <;> rfl)
theorem cv_id {k : Kd} {l : List Dat} : l.map (cv k k) = l := by rw [show cv k k = id from funext fun d => cv_self k d]; simp
end
section
theorem bRows_len' {B : Mt} (h : B.Gd) : (bRows B).length = B.n := by
  unfold bRows
  cases e : B.rn with
  | none => simp
  | some ns => exact h.rn ns e
theorem someOf_getD (l : List Str) : (someOf l).getD (List.replicate l.length ("" : Str)) = l := by
  unfold someOf
  cases h : l.any (· != ("" : Str)) with
  | true => rfl
  | false =>
    show List.replicate l.length ("" : Str) = l
    symm
    rw [List.eq_replicate_iff]
    refine ⟨rfl, fun x hx => ?_⟩
    have := List.any_eq_false.mp h x hx
    simpa using this
theorem dueRows_snoc {Bs : List Mt} {B : Mt} : dueRows (Bs ++ [B]) = dueRows Bs ++ bRows B := by
  unfold dueRows; rw [List.map_append, List.flatten_append]; simp
theorem dueRows_two {S B : Mt} : dueRows [S, B] = bRows S ++ bRows B := by
  unfold dueRows; simp
theorem rel_one {W : Nat} {B : Mt} (h : Bw W B) : Rel W [B] B := by
  have ek : kmax ([B].map (·.kind)) = B.kind := by
    show kmax [B.kind] = B.kind
    cases B.kind <;> rfl
  refine ⟨ek.symm, by simp, ?_, by simp [dueRows], ?_⟩
  · rw [ek]
    apply List.ext_getElem (by simp [h.c])
    intro i h1 h2
    simp only [List.getElem_map, List.getElem_range]
    show _ = ([B].map (dCol B.kind i)).flatten
    have : dCol B.kind i B = B.cols[i] := by
      unfold dCol
      rw [cv_id, List.getD_eq_getElem?_getD, List.getElem?_eq_getElem h1]; rfl
    simp [this]
  · cases hb : B.cn <;> simp [hb]
theorem dcol_cv {W : Nat} {B : Mt} {K K' : Kd} (h : Bw W B) (h1 : B.kind.o ≤ K.o) (h2 : K.o ≤ K'.o) {c : Nat} (hc : c < W) : (dCol K c B).map (cv K K') = dCol K' c B := by
  unfold dCol
  have e : B.cols[c]? = some (B.cols[c]'(by rw [h.c]; exact hc)) := List.getElem?_eq_getElem _
  have hm := List.mem_of_getElem? e
  rw [List.getD_eq_getElem?_getD, e, Option.getD_some, List.map_map]
  apply List.map_congr_left
  intro d hd
  exact cv_cv h1 h2 (h.gd.it _ hm d hd)
theorem kmax_le {k1 k2 : List Kd} (h : ∀ k ∈ k1, k ∈ k2) (hne : k1 ≠ []) : (kmax k1).o ≤ (kmax k2).o := by
  have e1 : (kmax k1).o = kmo k1 := kOf_o (kmo_pos hne) (kmo_le _)
  have hne2 : k2 ≠ [] := by
    cases k1 with
    | nil => exact absurd rfl hne
    | cons k r => exact List.ne_nil_of_mem (h k (.head _))
  have e2 : (kmax k2).o = kmo k2 := kOf_o (kmo_pos hne2) (kmo_le _)
  rw [e1, e2]
  exact kmo_bound fun k hk => kmo_mem (h k hk)
theorem rel_step {W : Nat} {Bs : List Mt} {S B : Mt} (r : Rel W Bs S) (hne : Bs ≠ []) (h : ∀ B ∈ Bs, Bw W B) (hS : Bw W S) (hB : Bw W B) : Rel W (Bs ++ [B]) (bindRows W (rqs [S, B])) := by
  have h2 : ∀ X ∈ [S, B], Bw W X := fun X hX => by
    rcases List.mem_cons.mp hX with rfl | hX
    · exact hS
    · rw [List.mem_singleton.mp hX]; exact hB
  have hkne : Bs.map (·.kind) ≠ [] := by simpa using hne
  have ek : kmax ([S, B].map (·.kind)) = kmax ((Bs ++ [B]).map (·.kind)) := by
    show kmax [S.kind, B.kind] = _
    rw [r.kind, kmax_app hkne, List.map_append]; rfl
  refine ⟨rows_kind.trans ek, ?_, ?_, ?_, ?_⟩
  · rw [rows_n]
    show ([S.n, B.n] : List Nat).sum = _
    rw [List.map_append, List.sum_append, ← r.n]; simp
  · rw [rows_cols h2, ek]
    apply List.map_congr_left
    intro c hc
    have hc : c < W := List.mem_range.mp hc
    have hle : (kmax (Bs.map (·.kind))).o ≤ (kmax ((Bs ++ [B]).map (·.kind))).o := kmax_le (fun k hk => by rw [List.map_append]; exact List.mem_append_left _ hk) hkne
    generalize kmax ((Bs ++ [B]).map (·.kind)) = K' at *
    have e1 : dCol K' c S = (Bs.map (dCol K' c)).flatten := by
      have e2 : S.cols.getD c [] = dueCol (kmax (Bs.map (·.kind))) Bs c := by
        rw [r.cols, List.getD_eq_getElem?_getD, List.getElem?_map, List.getElem?_range hc]; rfl
      show (S.cols.getD c []).map (cv S.kind _) = _
      rw [e2, r.kind]
      unfold dueCol
      rw [List.map_flatten, List.map_map]
      congr 1
      apply List.map_congr_left
      intro X hX
      exact dcol_cv (h X hX) (kmax_ge (List.mem_map.mpr ⟨X, hX, rfl⟩)) hle hc
    unfold dueCol
    rw [List.map_append, List.flatten_append]
    simp [e1]
  · unfold bRows
    rw [rows_rn, rows_n]
    have el : ([S, B].map (·.n)).sum = (dueRows [S, B]).length := by
      rw [dueRows_two, List.length_append, bRows_len' hS.gd, bRows_len' hB.gd]; simp
    rw [el, someOf_getD, dueRows_two, r.rows, dueRows_snoc]
  · rw [rows_cn, List.findSome?_append, ← r.cn]
    simp only [List.findSome?_cons, List.findSome?_nil]
    cases S.cn <;> cases B.cn <;> rfl
theorem rel_whole {W : Nat} {Bs : List Mt} {S : Mt} (r : Rel W Bs S) (hr : S.rn = someOf (dueRows Bs)) (hc : S.cols.length = W) : whole S = due Bs W := by
  unfold whole due
  rw [hr, r.kind, r.n, hc, r.cn]
  conv => lhs; rw [r.cols]
  rfl
theorem step_rn {W : Nat} {Bs : List Mt} {S B : Mt} (r : Rel W Bs S) : (bindRows W (rqs [S, B])).rn = someOf (dueRows (Bs ++ [B])) := by
  rw [rows_rn, dueRows_two, r.rows, dueRows_snoc]
theorem flat_idx {α : Type} {L : List (List α)} {i j : Nat} {g : List α} {x : α} (h : L[i]? = some g) (hj : g[j]? = some x) : L.flatten[(L.take i).flatten.length + j]? = some x := by
  have hi : i < L.length := (List.getElem?_eq_some_iff.mp h).1
  have hg : g = L[i] := by rw [List.getElem?_eq_getElem hi] at h; exact (Option.some.inj h).symm
  have e : L.flatten = (L.take i).flatten ++ (g ++ (L.drop (i + 1)).flatten) := by
    conv => lhs; rw [← List.take_append_drop i L, List.flatten_append, List.drop_eq_getElem_cons hi, List.flatten_cons]
    rw [hg]
  rw [e, List.getElem?_append_right (Nat.le_add_right _ _), Nat.add_sub_cancel_left, List.getElem?_append_left (List.getElem?_eq_some_iff.mp hj).1]
  exact hj
theorem rows_item {W : Nat} {Bs : List Mt} (h : ∀ B ∈ Bs, Bw W B) {i c p : Nat} {B : Mt} {col : List Dat} {x : Dat} (hi : Bs[i]? = some B) (hc : c < W) (hcol : B.cols[c]? = some col) (hp : col[p]? = some x) :
    ∃ rc, (bindRows W (rqs Bs)).cols[c]? = some rc ∧ rc[((Bs.take i).map (·.n)).sum + p]? = some (cv B.kind (kmax (Bs.map (·.kind))) x) := by
  refine ⟨dueCol (kmax (Bs.map (·.kind))) Bs c, by rw [rows_cols h, List.getElem?_map, List.getElem?_range hc]; rfl, ?_⟩
  generalize kmax (Bs.map (·.kind)) = K
  have e1 : (Bs.map (dCol K c))[i]? = some (dCol K c B) := by rw [List.getElem?_map, hi]; rfl
  have e2 : (dCol K c B)[p]? = some (cv B.kind K x) := by
    unfold dCol
    rw [List.getD_eq_getElem?_getD, hcol, Option.getD_some, List.getElem?_map, hp]; rfl
  have e3 : (((Bs.map (dCol K c)).take i).flatten).length = ((Bs.take i).map (·.n)).sum := by
    rw [← List.map_take, List.length_flatten, List.map_map]
    congr 1
    apply List.map_congr_left
    intro X hX
    have hw := h X (List.mem_of_mem_take hX)
    show (dCol K c X).length = X.n
    unfold dCol
    rw [List.length_map, List.getD_eq_getElem?_getD, List.getElem?_eq_getElem (by rw [hw.c]; exact hc)]
    exact hw.gd.wf.col _ (List.getElem_mem _)
  have := flat_idx e1 e2
  rw [e3] at this
  exact this
theorem hqs_all (Bs : List Mt) : rqs Bs = (kix ((Bs.map Pt.mat).map Pt.turn) ((Bs.map Pt.mat).map Pt.turn).length).map (pq ((Bs.map Pt.mat).map Pt.turn) (List.replicate Bs.length none)) := by
  have hk : kix ((Bs.map Pt.mat).map Pt.turn) ((Bs.map Pt.mat).map Pt.turn).length = List.range Bs.length := by
    unfold kix
    rw [List.length_map, List.length_map]
    apply List.filter_eq_self.mpr
    intro i hi
    have hi : i < Bs.length := List.mem_range.mp hi
    rw [List.getElem?_map, List.getElem?_map, List.getElem?_eq_getElem hi]
    rfl
  rw [hk]
  apply List.ext_getElem (by simp [rqs])
  intro i h1 h2
  have hi : i < Bs.length := by simpa using h2
  simp only [rqs, List.getElem_map, List.getElem_range, pq, List.getD_eq_getElem?_getD, List.getElem?_map, List.getElem?_eq_getElem hi, Option.map_some, Option.getD_some, List.getElem?_replicate, hi, if_true]
  rfl
theorem kqd_whole {A : Mt} (h : A.Gd) (h0 : NsOk A.rn) (h1 : NsOk A.cn) : kqdOk 8 (whole A) = true := by
  show ([Dat.str A.kind.s, .list A.cols.flatten, .list [.int (A.n : Int), .int (A.cols.length : Int)], nmD A.rn, nmD A.cn].all (kqdOk 7)) = true
  have e1 : kqdOk 7 (.str A.kind.s) = true := by cases A.kind <;> decide +kernel
  have e2 : kqdOk 7 (.list A.cols.flatten) = true := kqd_list fun d hd => by
    obtain ⟨c, hc, hd⟩ := List.mem_flatten.mp hd
    exact kqd_it (n := 5) (h.it c hc d hd)
  have e3 : kqdOk 7 (.list [.int (A.n : Int), .int (A.cols.length : Int)]) = true := rfl
  have e4 := kqd_nm (n := 5) h0
  have e5 := kqd_nm (n := 5) h1
  simp only [List.all_cons, List.all_nil, e1, e2, e3, e4, e5, Bool.and_self]
theorem ns_rows {W : Nat} {Bs : List Mt} (h : ∀ B ∈ Bs, Bk W B) : NsOk (someOf (dueRows Bs)) ∧ NsOk (Bs.findSome? (·.cn)) := by
  constructor
  · intro ns e x hx
    unfold someOf at e
    split at e
    · cases e
      obtain ⟨g, hg, hx⟩ := List.mem_flatten.mp hx
      obtain ⟨B, hB, rfl⟩ := List.mem_map.mp hg
      exact bRows_ok (h B hB) x hx
    · cases e
  · intro ns e x hx
    obtain ⟨B, hB, e⟩ := List.exists_of_findSome?_eq_some e
    exact (h B hB).cn ns e x hx
theorem nas_rep {n : Nat} : NasI (List.replicate n Value.none) (List.replicate n none) := fun i nm e => by
  have hi : i < n := by have := (List.getElem?_eq_some_iff.mp e).1; simpa using this
  rw [List.getElem?_replicate, if_pos hi] at e
  cases e
  exact ⟨.none, by rw [List.getElem?_replicate, if_pos hi], rfl⟩
end
section
noncomputable def LawIs (w : World) (body : List Stmt) (scope : Scope) : Prop := ∃ name qual params dV kV doc pm cdv ct oc an od osl, (hd.heap_39 w.params).lookup 678 = some ⟨oc, od, .func (fnOf name qual params body scope dV kV doc pm an cdv ct), osl⟩
theorem law_pack {w : World} {P : List Stmt → Scope → Prop} {name qual : Str} {params : Arguments} {body : List Stmt} {scope : Scope} {dV kV doc pm cdv ct oc : Value} {an od : Option Addr} {osl : Array (Option Value)}
    (ho : (hd.heap_39 w.params).lookup 678 = some ⟨oc, od, .func (fnOf name qual params body scope dV kV doc pm an cdv ct), osl⟩) (h : P body scope) : ∃ body scope, LawIs w body scope ∧ P body scope :=
  ⟨_, _, ⟨_, _, _, _, _, _, _, _, _, _, _, _, _, ho⟩, h⟩
/-- the last call of the law -/
noncomputable def RefOk (b : Act) (w : World) : Prop := ∀ {m : Map} {M I I₀ : Led} {Q X : Post Value} {v : Value} {tw : Tok} {W : Nat} {B : Mt}, MatI w I₀ v B → Bk W B → 1 ≤ W → W ≤ 3 → (∀ I', I ⊆ I' → Q (.bool true) M I') → I₀ ⊆ I → Ex b (call (.ref 673) [v, .int (W : Int) tw]) m M I Q X
noncomputable def A1 : Mt := ⟨.i, 1, [[.int 1], [.int 2]], none, none⟩
noncomputable def A2 : Mt := ⟨.i, 1, [[.int 3], [.int 4]], none, none⟩
theorem tiny_gd {x y : Int} : (⟨.i, 1, [[.int x], [.int y]], none, none⟩ : Mt).Gd := by
  refine ⟨⟨fun c hc => ?_, Nat.le_of_ble_eq_true rfl, Nat.le_of_ble_eq_true rfl, (fun ns e => nomatch e), (fun ns e => nomatch e)⟩, Nat.le_refl _, Nat.le_of_ble_eq_true rfl, (fun ns e => nomatch e), (fun ns e => nomatch e), fun c hc d hd => ?_⟩
  · rcases List.mem_cons.mp hc with rfl | hc
    · rfl
    · rw [List.mem_singleton.mp hc]; rfl
  · rcases List.mem_cons.mp hc with rfl | hc
    · rw [List.mem_singleton.mp hd]; exact .inr ⟨_, rfl⟩
    · rw [List.mem_singleton.mp hc] at hd
      rw [List.mem_singleton.mp hd]; exact .inr ⟨_, rfl⟩
section
variable {X : Post Value} {a : Act} {m : Map} {M I : Led} {n : Nat} {Q : Post Value} {w : World}
theorem add_out (ok : a.Ok n) {l b us c'} {vs : List Value} (hl : a.h₀.IsList l vs.toArray) (hb : At M I b (Li us c')) (hz : vs.length + us.length ≤ sizeLine) (h : ∀ D, Q (.ref D) ((D, Li (vs ++ us) 0) :: M) I) : Ex a (binaryOp .Add (.ref l) (.ref b)) m M I Q X := by
  intro mf H s hm S
  have hl' : s.heap.IsList l vs.toArray := by obtain ⟨o, ho, r⟩ := hl; exact ⟨o, S.F.keep _ _ ho, r⟩
  refine add_arrays S.F S.N hl' (hb.isList S) (fun h' F' N' => ?_) (by simpa using hz)
  exact ⟨_, I, S.addM F' N' S.fresh, fun _ h => h, ⟨rfl, rfl, rfl⟩, by simpa using h _⟩
theorem str_item {e i : Expr} {x : Str} {t u : Tok} {k : Nat} (hk : k < x.length) (hx : x.length ≤ 1000) (h : ∀ t', Q (.str (Txt.item x (k : Int)) t') M I)
    (hs : subscripted i false (.str x t) (.int (k : Int) u) = operate [.str x t, .int (k : Int) u] (getItem (.str x t) (.int (k : Int) u)) := by with_unfolding_all rfl)
    (ht : ∀ r, letTemporaryGo e (.str x t) r = pure () := by intro _; with_unfolding_all rfl) : Ex a (subscriptTail e i (.str x t) (.int (k : Int) u)) m M I Q X := by
  intro mf H s hm S
  exact KXi.item (n := x.length) rfl (by omega) (by omega) (by omega) (fun _ => S.here (h _)) hs ht
theorem law_xs : ∃ body scope, LawIs w body scope ∧ ∀ (b : Act) (l : Addr) (vs : List Value), b.Ok 12 → b.w = w → Fm b scope → RefOk b w → b.h₀.IsList l vs.toArray → (∀ v ∈ vs, ∃ i t, v = Value.int i t) → vs.length ≤ 63 →
    Xs b (execs body b.env) (upd (fun _ => none) "script" (.ref l)) [] [] (fun fl _ _ _ => fl = .ret (.bool true)) noX := by
  refine' law_pack ?ho ?_
  case ho => k_is
  intro b l vs okb hwb fm hRef hsc hints hvl
  kst_mem
  rename_i t0
  refine ⟨Nat.le_of_ble_eq_true rfl, fun D1 => ?_⟩
  kst_mem
  refine add_out okb hsc (.ofM (.head _)) (Nat.le_trans (show vs.length + 1 ≤ 1000 by omega) (by decide)) fun D2 => ?_
  refine fun _ => ⟨D2, vs ++ [.int 0 t0], 0, rfl, .ofM (.head _), Nat.le_trans (show (vs ++ [Value.int 0 t0]).length ≤ 1000 by simp; omega) (by decide), .none (.some ?_)⟩
  kst_mem
  rename_i t40
  refine ⟨.ofM (.head _), none, some 40, .none, .int _ _, fun D3 => ?_⟩
  rw [show (some (40 : Int)) = some (((40 : Nat)) : Int) from rfl, slice_first]
  isplit
  kst_p
  kst_p
  kst_p
  kst_mem
  refine ⟨rfl, by simp [strPairs]; decide, fun d oc hoc lo => ?_⟩
  rw [hwb] at hoc
  rename_i tl tr
  have hc0 : CaskO w ((D1, Li [Value.int 0 t0] 0) :: (D2, Li (vs ++ [Value.int 0 t0]) 0) :: (D3, Li ((vs ++ [Value.int 0 t0]).take 40) 0) :: []) oc 0 := by
    refine ⟨_, (vs ++ [Value.int 0 t0]).take 40, 0, 0, _, _, hoc, ⟨D3, 0, rfl, .tail _ (.tail _ (.head _))⟩, ?_, by rw [List.length_take]; omega, fun v hv => ?_, Nat.le_refl _, by decide⟩
    · intro e
      have := congrArg List.length e
      rw [List.length_take, List.length_append] at this
      simp at this
    · rcases List.mem_append.mp (List.mem_of_mem_take hv) with h | h
      · exact hints v h
      · exact ⟨0, t0, List.mem_singleton.mp h⟩
  kst_mem
  refine ⟨Nat.le_of_ble_eq_true rfl, fun Ea1 => ?_⟩
  kst_mem
  refine ⟨Nat.le_of_ble_eq_true rfl, fun Ea2 => ?_⟩
  kst_mem
  kst_p
  kst_p
  refine c_integer (okb.le (by decide)) ⟨Ea2, 0, rfl, .tail _ (.head _)⟩ (Nat.le_of_ble_eq_true rfl) (fun dva dsa Ja1 sa1 hdva hdsa => ?_) (List.Subset.refl _)
  kst_mem
  refine ⟨rfl, by simp [strPairs], fun dda oda hoda loa => ?_⟩
  rw [hwb] at hoda
  kst_mem
  kst_p
  refine i_vector3 (okb.le (by decide)) fun va Ja2 sa2 hva => ?_
  have hma : MatI w Ja2 va A1 := ⟨.ref Ea1, _, .ref dda, dva, dsa, hva, ⟨Ea1, 0, rfl, sa2 (.tail _ (sa1 (.head _)))⟩, .cons (.int _ _) (.cons (.int _ _) .nil), ⟨_, _, hdva.mono (by kqd_sub), hdsa.mono (by kqd_sub)⟩, .inl ⟨rfl, rfl, ⟨dda, oda, rfl, sa2 (.head _), hoda, loa⟩⟩⟩
  kst_mem
  refine ⟨Nat.le_of_ble_eq_true rfl, fun Eb1 => ?_⟩
  kst_mem
  refine ⟨Nat.le_of_ble_eq_true rfl, fun Eb2 => ?_⟩
  kst_mem
  kst_p
  kst_p
  refine c_integer (okb.le (by decide)) ⟨Eb2, 0, rfl, .tail _ (.head _)⟩ (Nat.le_of_ble_eq_true rfl) (fun dvb dsb Jb1 sb1 hdvb hdsb => ?_) (List.Subset.refl _)
  kst_mem
  refine ⟨rfl, by simp [strPairs], fun ddb odb hodb lob => ?_⟩
  rw [hwb] at hodb
  kst_mem
  kst_p
  refine i_vector3 (okb.le (by decide)) fun vb Jb2 sb2 hvb => ?_
  have hmb : MatI w Jb2 vb A2 := ⟨.ref Eb1, _, .ref ddb, dvb, dsb, hvb, ⟨Eb1, 0, rfl, sb2 (.tail _ (sb1 (.head _)))⟩, .cons (.int _ _) (.cons (.int _ _) .nil), ⟨_, _, hdvb.mono (by kqd_sub), hdsb.mono (by kqd_sub)⟩, .inl ⟨rfl, rfl, ⟨ddb, odb, rfl, sb2 (.head _), hodb, lob⟩⟩⟩
  kst_mem
  refine ⟨Nat.le_of_ble_eq_true rfl, fun P1 => ?_⟩
  kst_mem
  refine ⟨Nat.le_of_ble_eq_true rfl, fun P2 => ?_⟩
  kst_mem
  refine ⟨Nat.le_of_ble_eq_true rfl, fun P3 => ?_⟩
  kst_mem
  kst_p
  kst_p
  kst_p
  have hbw : ∀ B ∈ [A1, A2], Bw 2 B := fun B hB => by
    rcases List.mem_cons.mp hB with rfl | hB
    · exact ⟨tiny_gd, rfl⟩
    · rw [List.mem_singleton.mp hB]; exact ⟨tiny_gd, rfl⟩
  obtain ⟨hT, -, hbw2⟩ := rows_gd hbw (by simp) (by decide) (by decide) (by decide)
  refine c_bind_rows (w := w) (e := 2) (qs := rqs [A1, A2]) (ps := [.mat A1, .mat A2]) (ns := [none, none]) (vs := [va, vb]) (nvs := [.none, .none]) (okb.le (by decide)) hwb (I₀ := (P1, Li [va, vb] 0) :: (P2, Li [.none, .none] 0) :: (P3, Li [] 0) :: Jb2) ⟨P1, 0, rfl, .head _⟩ ?_ ⟨P2, 0, rfl, .tail _ (.head _)⟩ ?_ rfl ?_ ?_ rfl (by simp) (by omega) (by omega) rfl (by simp [rqs]) hT (rqs_ok hbw) fun R J3 s3 hR => ?_
  · refine ⟨rfl, fun i p e => ?_⟩
    match i, e with
    | 0, e => cases e; exact ⟨va, rfl, MatI.mono hma (by kqd_sub)⟩
    | 1, e => cases e; exact ⟨vb, rfl, MatI.mono hmb (by kqd_sub)⟩
    | (_ + 2), e => cases e
  · intro i nm e
    match i, e with
    | 0, e => cases e; exact ⟨.none, rfl, rfl⟩
    | 1, e => cases e; exact ⟨.none, rfl, rfl⟩
    | (_ + 2), e => cases e
  · intro p hp
    rcases List.mem_cons.mp hp with rfl | hp
    · exact ⟨(hbw A1 (.head _)).gd.t, rfl⟩
    · rw [List.mem_singleton.mp hp]; exact ⟨(hbw A2 (.tail _ (.head _))).gd.t, rfl⟩
  · intro A hA
    rcases List.mem_cons.mp hA with e | hA
    · cases e; exact (hbw A1 (.head _)).gd.wf
    · cases List.mem_singleton.mp hA; exact (hbw A2 (.tail _ (.head _))).gd.wf
  kst_mem
  obtain ⟨riv, rvs, rav, rdv, rds, r1, r2, r3, -, -⟩ := hR
  refine g_items okb r1 r2.handed ?_
  kst_mem
  refine ⟨Nat.le_of_ble_eq_true rfl, fun P4 => ?_⟩
  kst_mem
  refine ne_same (d := .list [.int 1, .int 3, .int 2, .int 4]) okb (atI _ (r2.dat r3)) (.list (.head _) (.cons (.int _ _) (.cons (.int _ _) (.cons (.int _ _) (.cons (.int _ _) .nil))))) rfl ?_
  isplit
  kst_p
  kst_mem
  refine c_next (ways := 3) (okb.le (by decide)) hwb (fun oc => [(d, oc)]) .head (hc0.mono (by kqd_sub)) (by omega) (by omega) (by omega) (fun gw tw oc1 J4 s4 hc1 hgw => ?_) (List.Subset.refl _)
  kst_mem
  rename_i tW
  have eW : ((1 : Int) + (gw : Int)) = ((1 + gw : Nat) : Int) := by push_cast; rfl
  rw [eW]
  have hW1 : 1 ≤ 1 + gw := by omega
  have hW3 : 1 + gw ≤ 3 := by omega
  generalize 1 + gw = W at hW1 hW3
  refine ⟨Nat.le_of_ble_eq_true rfl, fun Bl => ?_⟩
  isplit
  refine Xs.cons ?_
  with_reducible refine' X_for_range okb fm ?f1 ?f2 ?_
  case f1 => k_places
  case f2 => exact fun _ => rfl
  kst_mem
  refine c_next (ways := 3) (okb.le (by decide)) hwb (fun oc => [(Bl, Li [] 0), (d, oc)]) (.tail .head) hc1 (by omega) (by omega) (by omega) (fun gn tn oc2 J5 s5 hc2 hgn => ?_) (List.Subset.refl _)
  kst_mem
  have eN : ((1 : Int) + (gn : Int)) = ((1 + gn : Nat) : Int) := by push_cast; rfl
  rw [eN]
  have hN1 : 1 ≤ 1 + gn := by omega
  have hN3 : 1 + gn ≤ 3 := by omega
  generalize 1 + gn = NB at hN1 hN3
  refine range_1 fun r u1 u2 u3 => ?_
  let J_1 : Nat → Map → Led → Led → Prop := fun i m' M' I' => (m' "cask" = some (.ref d) ∧ m' "width" = some (.int (W : Int) tW) ∧ m' "blocks" = some (.ref Bl)) ∧ ∃ ys c Bs oc, M' = [(Bl, Li ys c), (d, oc)] ∧ CaskO w I' oc (2 + 22 * i) ∧ MtsI w I' ys Bs ∧ Bs.length = i ∧ ∀ B ∈ Bs, Bk W B
  refine ⟨r, NB, _, _, _, rfl, .head _, by omega, J_1,
    ⟨⟨by kp_flats, by kp_flats, by kp_flats⟩, [], 0, [], oc2, rfl, (hc2.le (by omega)).mono (by kqd_sub), ⟨rfl, fun i p h => by simp at h⟩, rfl, fun _ h => nomatch h⟩, ?_, ?_⟩
  · rintro i ta m₁ M₁ I₁ hi hI₁ ⟨⟨e1, e2, e3⟩, ys, c, Bs, oc3, rfl, hc3, hbs, hbl, hbk⟩
    have hyl := hbs.len
    kst_mem
    refine E_append _ ?_
    kst_mem
    refine ⟨Bl, ys, c, rfl, .ofM (.head _), ?_⟩
    kst_mem
    refine c_next (ways := 3) (okb.le (by decide)) hwb (fun oc => [(Bl, Li ys c), (d, oc)]) (.tail .head) hc3 (by omega) (by omega) (by omega) (fun gh th oc4 J6 s6 hc4 hgh => ?_) (List.Subset.refl _)
    kst_mem
    have eH : ((1 : Int) + (gh : Int)) = ((1 + gh : Nat) : Int) := by push_cast; rfl
    rw [eH]
    obtain ⟨z1, z2⟩ : (Txt.item ("abc" : Str) (i : Int)).length ≤ 2 ∧ PyData.strOk (Txt.item ("abc" : Str) (i : Int)) = true := by
      obtain rfl | rfl | rfl : i = 0 ∨ i = 1 ∨ i = 2 := by omega
      · decide +kernel
      · decide +kernel
      · decide +kernel
    have habc : ("abc" : Str).length = 3 := by decide +kernel
    refine str_item (by omega) (by omega) fun t7 => ?_
    kst_mem
    refine c_block (okb.le (by decide)) hwb (fun oc => [(Bl, Li ys c), (d, oc)]) (.tail .head) hc4 (by omega) (by omega) (by omega) hW1 hW3 z1 z2 (fun rb B oc5 J7 s7 hc5 hrb hBgd hBn hBc hB1 hB2 => ?_) (List.Subset.refl _)
    kst_mem
    refine ⟨_, _, _, .head, Nat.le_trans (by omega : ys.length ≤ 1000) (by decide), ?_⟩
    kst_mem
    refine ⟨⟨by kp_flats, by kp_flats, by kp_flats⟩, _, _, Bs ++ [B], oc5, rfl, hc5.le (by omega), ?_, by simp [hbl], fun X hX => ?_⟩
    · have := PtsI.snoc (PtsI.mono hbs (by kqd_sub)) (p := .mat B) hrb
      unfold MtsI; rw [List.map_append]; exact this
    · rcases List.mem_append.mp hX with h | h
      · exact hbk X h
      · rw [List.mem_singleton.mp h]; exact ⟨hBgd, by omega, hBc, hB1, hB2⟩
  · rintro m₁ M₁ I₁ hI₁ ⟨⟨e1, e2, e3⟩, ys, c, Bs, oc3, rfl, hc3, hbs, hbl, hbk⟩
    have hyl := hbs.len
    isplit
    refine Xs.freeze ?_
    kst_mem
    have hbw : ∀ B ∈ Bs, Bw W B := fun B hB => (hbk B hB).w
    have hne : Bs ≠ [] := ne_len hbl hN1
    have hsum : ∀ k, ((Bs.take k).map (·.n)).sum ≤ 9 := fun k => by
      have h1 := sum_le (W := W) (Bs := Bs.take k) fun B h => hbk B (List.mem_of_mem_take h)
      have h2 : (Bs.take k).length ≤ 3 := by rw [List.length_take]; omega
      omega
    have hsum1 : (Bs.map (·.n)).sum ≤ 9 := by have := hsum Bs.length; rwa [List.take_length] at this
    obtain ⟨hT, hCgd, hRw⟩ := rows_gd hbw hne hW1 (by omega) (by omega)
    obtain ⟨hns0, hns1⟩ := ns_rows hbk
    have hNr : NsOk (bindRows W (rqs Bs)).rn := by rw [rows_rn]; exact hns0
    have hNc : NsOk (bindRows W (rqs Bs)).cn := by rw [rows_cn]; exact hns1
    have hRk := kqd_whole hRw.gd hNr hNc
    refine ⟨Nat.le_of_ble_eq_true rfl, fun N1 => ?_⟩
    kst_mem
    refine l_len (I₀ := (Bl, Li ys c) :: I₁) ⟨Bl, c, rfl, .head _⟩ (by omega) fun t5 => ?_
    kst_mem
    refine mul_li (.ofM (.head _)) (by omega) fun N2 => ?_
    isplit
    refine Xs.freeze ?_
    refine Xs.freeze ?_
    kst_mem
    refine ⟨Nat.le_of_ble_eq_true rfl, fun N3 => ?_⟩
    isplit
    refine Xs.freeze ?_
    kst_mem
    have hps : PtsI w ((Bl, Li ys c) :: I₁) ys (Bs.map .mat) := PtsI.mono hbs (by kqd_sub)
    have hturn : ∀ p ∈ Bs.map Pt.mat, p.turn.Gd W := fun p hp => by
      obtain ⟨B, hB, rfl⟩ := List.mem_map.mp hp
      exact ⟨(hbw B hB).gd.t, (hbw B hB).c⟩
    have hmat : anyMat (Bs.map Pt.mat) = true := by
      cases hB : Bs with
      | nil => exact absurd hB hne
      | cons B r => rfl
    refine c_bind_rows (w := w) (e := W) (qs := rqs Bs) (ps := Bs.map .mat) (ns := List.replicate Bs.length none) (vs := ys) (nvs := List.replicate ys.length .none) (okb.le (by decide)) hwb (I₀ := (N3, Li [] 0) :: (N1, Li [Value.none] 0) :: (N2, Li (List.replicate ys.length Value.none) 0) :: (Bl, Li ys c) :: I₁) ⟨Bl, c, rfl, .tail _ (.tail _ (.tail _ (.head _)))⟩ (hps.mono (by kqd_sub)) ⟨N2, 0, rfl, .tail _ (.tail _ (.head _))⟩ (by rw [hyl]; exact nas_rep) (by simp) hturn ?_ hmat (by simp; omega) (by omega) hW1 ?_ (by simpa [rqs] using hne) hT (rqs_ok hbw) (fun R J8 s8 hR => ?_) (List.Subset.refl _)
    · intro A hA
      obtain ⟨B, hB, e⟩ := List.mem_map.mp hA
      cases e; exact (hbw A hB).gd.wf
    · rw [hqs_all Bs, List.length_map, List.length_map]
    have hWR : whole (bindRows W (rqs Bs)) = due Bs W := whole_rows hbw
    isplit
    refine Xs.cons ?_
    refine Xs.cut (fun fl m' L' I' => fl = .next ∧ (m' "cask" = some (.ref d) ∧ m' "width" = some (.int (W : Int) tW) ∧ m' "blocks" = some (.ref Bl) ∧ m' "nothing" = some (.ref N2) ∧ m' "made" = some R) ∧ L' = [(d, oc3)]) ?_ ?_
    · refine .fz ?_
      kst_mem
      refine c_law_whole (okb.le (by decide)) hwb hR hRw.gd.wf.z0 hRw.gd.wf.z1 (fun u1 J9 s9 hu1 => ?_) (List.Subset.refl _)
      kst_mem
      refine c_law_due (I₀ := (Bl, Li ys c) :: I₁) (okb.le (by decide)) hwb ⟨Bl, c, rfl, .head _⟩ (PtsI.mono hbs (by kqd_sub)) hbk hW3 (by omega) (fun u2 J10 s10 hu2 => ?_) (by kqd_sub)
      kst_mem
      refine ne_same (d := due Bs W) okb (atI _ (hWR ▸ hu1.mono (sb (by kqd_sub)))) (atI _ hu2) (hWR ▸ hRk) ?_
      kst_mem
      refine ⟨Nat.le_of_ble_eq_true rfl, fun P5 => ?_⟩
      kst_mem
      refine ne_same (d := .list []) okb (atI _ (.list (s10 (s9 (s8 (.head _)))) .nil)) (.list (.head _) .nil) rfl ?_
      kst_mem
      exact ⟨_, _, .step .refl, rfl, ⟨by kp_flats, by kp_flats, by kp_flats, by kp_flats, by kp_flats⟩, rfl⟩
    · rintro fl m₂ L₂ I₂ hI₂ ⟨rfl, ⟨f1, f2, f3, f4, f5⟩, rfl⟩
      kst_mem
      have hBlm : (Bl, Li ys c) ∈ I₂ := hI₂ (s8 (.tail _ (.tail _ (.tail _ (.head _)))))
      have hN2m : (N2, Li (List.replicate ys.length Value.none) 0) ∈ I₂ := hI₂ (s8 (.tail _ (.tail _ (.head _))))
      have hps2 : PtsI w I₂ ys (Bs.map .mat) := PtsI.mono hbs (by kqd_sub)
      have hR2 : MatI w I₂ R (bindRows W (rqs Bs)) := hR.mono hI₂
      have hc2' : CaskO w I₂ oc3 (2 + 22 * NB) := hc3.mono (by kqd_sub)
      with_reducible refine' E_comp_list okb ?c1 ?c2 ?c3 ?_
      case c1 => exact ⟨rfl, rfl, rfl, rfl, rfl⟩
      case c2 => rfl
      case c3 => exact fun _ => rfl
      kst_mem
      let J_2 : Nat → List Value → Led → Led → Prop := fun i zs L₁ I₁ => L₁ = [(d, oc3)] ∧ PtsI w I₁ zs (((Bs.map Pt.mat).map Pt.turn).take i)
      refine ⟨Bl, ys, c, rfl, hBlm, Nat.le_trans (by omega : ys.length ≤ 1000) (by decide), J_2, ⟨rfl, rfl, fun i p h => by simp at h⟩, ?_, ?_⟩
      · rintro C i x zs L₁ I₃ hxi hI₃ ⟨rfl, hzs⟩
        obtain ⟨B, hBi, hBv⟩ := MtsI.get hps2 hxi
        kst_mem
        refine c_transpose ((okb.comp (by rfl) C).le (by decide)) hwb hBv (hbw B (List.mem_of_getElem? hBi)).gd.wf (fun r I4 s4 hr => ⟨rfl, ?_⟩) hI₃
        rw [List.take_add_one, List.getElem?_map, List.getElem?_map, hBi]
        exact (hzs.mono s4).snoc (p := .mat B.t) hr
      · rintro zs L₁ I₃ hI₃ ⟨rfl, hzs⟩ Z1 cz
        rw [hyl, show ((Bs.map Pt.mat).map Pt.turn).take Bs.length = (Bs.map Pt.mat).map Pt.turn from List.take_of_length_le (by simp)] at hzs
        kst_mem
        refine ⟨Nat.le_of_ble_eq_true rfl, fun Z2 => ?_⟩
        kst_mem
        kst_p
        kst_p
        refine c_bind_cols (w := w) (e := W) (qs := rqs Bs) (ps := (Bs.map Pt.mat).map Pt.turn) (ns := List.replicate Bs.length none) (vs := zs) (nvs := List.replicate ys.length .none) (okb.le (by decide)) hwb (I₀ := (Z1, Li zs cz) :: (Z2, Li [] 0) :: I₃) ⟨Z1, cz, rfl, .head _⟩ (hzs.mono (by kqd_sub)) ⟨N2, 0, rfl, .tail _ (.tail _ (hI₃ hN2m))⟩ (by rw [hyl]; exact nas_rep) (by simp) (fun p hp => by obtain ⟨p', h', rfl⟩ := List.mem_map.mp hp; exact hturn p' h') (by rw [anyMat_turn]; exact hmat) (by simp; omega) (by omega) hW1 (hqs_all Bs) (by simpa [rqs] using hne) hT (fun T J11 s11 hT' => ?_) (List.Subset.refl _)
        isplit
        refine Xs.cons ?_
        refine Xs.cut (fun fl m' L' I' => fl = .next ∧ (m' "cask" = some (.ref d) ∧ m' "width" = some (.int (W : Int) tW) ∧ m' "blocks" = some (.ref Bl) ∧ m' "made" = some R) ∧ L' = [(d, oc3)]) ?_ ?_
        · kst_mem
          refine c_transpose (okb.le (by decide)) hwb hT' hCgd.wf (fun T2 J12 s12 hT2 => ?_) (List.Subset.refl _)
          kst_mem
          refine c_law_whole (A := bindRows W (rqs Bs)) (okb.le (by decide)) hwb hT2 hRw.gd.wf.z0 hRw.gd.wf.z1 (fun u1 J13 s13 hu1 => ?_) (List.Subset.refl _)
          kst_mem
          refine c_law_whole (okb.le (by decide)) hwb hR2 hRw.gd.wf.z0 hRw.gd.wf.z1 (fun u2 J14 s14 hu2 => ?_) (by kqd_sub)
          refine fun _ => ne_same (d := whole (bindRows W (rqs Bs))) okb (atI _ (hu1.mono (sb (by kqd_sub)))) (atI _ hu2) hRk ?_
          kst_mem
          exact ⟨rfl, ⟨by kp_flats, by kp_flats, by kp_flats, by kp_flats⟩, rfl⟩
        · rintro fl m₃ L₃ I₄ hI₄ ⟨rfl, ⟨g1, g2, g3, g4⟩, rfl⟩
          have hBl4 : (Bl, Li ys c) ∈ I₄ := (by kqd_sub : I₂ ⊆ I₄) hBlm
          have hps4 : PtsI w I₄ ys (Bs.map .mat) := hps2.mono (by kqd_sub)
          have hR4 : MatI w I₄ R (bindRows W (rqs Bs)) := hR2.mono (by kqd_sub)
          have hc4' : CaskO w I₄ oc3 (2 + 22 * NB) := hc2'.mono (by kqd_sub)
          obtain ⟨B0, hB0⟩ : ∃ B0, Bs[0]? = some B0 := ⟨Bs[0]'(by omega), List.getElem?_eq_getElem _⟩
          obtain ⟨v0, hv0, hv0'⟩ := MtsI.at hps4 hB0
          have hB0m := List.mem_of_getElem? hB0
          have htk1 : Bs.take 1 = [B0] := by
            cases hB : Bs with
            | nil => exact absurd hB hne
            | cons X r => rw [hB] at hB0; cases hB0; rfl
          clear hps hps2 hR hR2 hc3 hc2'
          kst_mem
          refine l_item (I₀ := I₄) ⟨Bl, c, rfl, hBl4⟩ (by decide) (by decide) hv0 ?_
          isplit
          refine Xs.cons ?_
          with_reducible refine' X_for_list okb fm ?f1 ?f2 ?_
          case f1 => k_places
          case f2 => exact fun _ => rfl
          refine .fz ?_
          refine' E_slice ?_ ?hs2
          case hs2 => intros; with_unfolding_all rfl
          kst_mem
          refine ⟨Bl, ys, c, rfl, .ofI hBl4, Nat.le_trans (by omega : ys.length ≤ 1000) (by decide), .some ?_⟩
          kst_mem
          refine .none ?_
          refine ⟨.ofI hBl4, some 1, none, .int _ _, .none, fun D5 => ?_⟩
          rw [slice_tail]
          let J_3 : Nat → Map → Led → Led → Prop := fun i m' M' I' => (m' "cask" = some (.ref d) ∧ m' "width" = some (.int (W : Int) tW) ∧ m' "blocks" = some (.ref Bl) ∧ m' "made" = some R) ∧ M' = [(d, oc3)] ∧ ∃ sv S, m' "slowly" = some sv ∧ MatI w I' sv S ∧ Rel W (Bs.take (i + 1)) S ∧ Bw W S ∧ (1 ≤ i → S.rn = someOf (dueRows (Bs.take (i + 1))))
          refine ⟨_, _, .step .refl, D5, ys.drop 1, 0, rfl, .head _, J_3, ?_, ?_, ?_⟩
          · exact ⟨⟨by kp_flats, by kp_flats, by kp_flats, by kp_flats⟩, rfl, v0, B0, by kp_flats, hv0'.mono (by kqd_sub), by rw [htk1]; exact rel_one (hbw B0 hB0m), hbw B0 hB0m, by omega⟩
          · rintro i bv m₄ M₄ I₅ hbv hI₅ ⟨⟨k1, k2, k3, k4⟩, rfl, sv, S, k5, k6, k7, k8, k9⟩
            rw [List.getElem?_drop] at hbv
            obtain ⟨B, hBi, hBv⟩ := MtsI.get hps4 hbv
            have hBm := List.mem_of_getElem? hBi
            have hSn : S.n ≤ 9 := by rw [k7.n]; exact hsum _
            have hBn : B.n ≤ 3 := (hbk B hBm).n
            have hw2 : ∀ X ∈ [S, B], Bw W X := fun X hX => by
              rcases List.mem_cons.mp hX with rfl | hX
              · exact k8
              · rw [List.mem_singleton.mp hX]; exact hbw B hBm
            have hs2 : ([S, B].map (·.n)).sum ≤ 20 := by simp; omega
            obtain ⟨hT2, -, hRw2⟩ := rows_gd hw2 (by simp) hW1 (by omega) hs2
            have htk : Bs.take (i + 1 + 1) = Bs.take (i + 1) ++ [B] := by
              rw [List.take_add_one (i := i + 1), show i + 1 = 1 + i by omega, hBi]; rfl
            have htne : Bs.take (i + 1) ≠ [] := by
              intro e; have := congrArg List.length e; rw [List.length_take, List.length_nil] at this; omega
            have hrel := rel_step k7 htne (fun X hX => hbw X (List.mem_of_mem_take hX)) k8 (hbw B hBm)
            have hrnn := step_rn (W := W) (B := B) k7
            rw [← htk] at hrel hrnn
            kst_mem
            refine i_null (okb.le (by decide)) fun nu I6 s6 hnu => ?_
            kst_mem
            refine ⟨Nat.le_of_ble_eq_true rfl, fun Q1 => ?_⟩
            kst_mem
            refine ⟨Nat.le_of_ble_eq_true rfl, fun Q2 => ?_⟩
            kst_mem
            refine ⟨Nat.le_of_ble_eq_true rfl, fun Q3 => ?_⟩
            kst_mem
            kst_p
            kst_p
            kst_p
            refine c_bind_rows (w := w) (e := W) (qs := rqs [S, B]) (ps := [.mat S, .nul, .mat B]) (ns := [none, none, none]) (vs := [sv, nu, bv]) (nvs := [.none, .none, .none]) (okb.le (by decide)) hwb (I₀ := (Q1, Li [sv, nu, bv] 0) :: (Q2, Li [.none, .none, .none] 0) :: (Q3, Li [] 0) :: I6) ⟨Q1, 0, rfl, .head _⟩ ?_ ⟨Q2, 0, rfl, .tail _ (.head _)⟩ ?_ rfl ?_ ?_ rfl (by simp) (by omega) hW1 rfl (by simp [rqs]) hT2 (rqs_ok hw2) (fun R2 I7 s7 hR7 => ?_) (List.Subset.refl _)
            · refine ⟨rfl, fun i p e => ?_⟩
              match i, e with
              | 0, e => cases e; exact ⟨sv, rfl, MatI.mono k6 (by kqd_sub)⟩
              | 1, e => cases e; exact ⟨nu, rfl, NulI.mono hnu (by kqd_sub)⟩
              | 2, e => cases e; exact ⟨bv, rfl, MatI.mono hBv (by kqd_sub)⟩
              | (_ + 3), e => cases e
            · intro i nm e
              match i, e with
              | 0, e => cases e; exact ⟨.none, rfl, rfl⟩
              | 1, e => cases e; exact ⟨.none, rfl, rfl⟩
              | 2, e => cases e; exact ⟨.none, rfl, rfl⟩
              | (_ + 3), e => cases e
            · intro p hp
              rcases List.mem_cons.mp hp with rfl | hp
              · exact ⟨k8.gd.t, k8.c⟩
              · rcases List.mem_cons.mp hp with rfl | hp
                · exact trivial
                · rw [List.mem_singleton.mp hp]; exact ⟨(hbw B hBm).gd.t, (hbw B hBm).c⟩
            · intro A hA
              rcases List.mem_cons.mp hA with e | hA
              · cases e; exact k8.gd.wf
              · rcases List.mem_cons.mp hA with e | hA
                · cases e
                · cases List.mem_singleton.mp hA; exact (hbw B hBm).gd.wf
            kst_mem
            exact ⟨⟨by kp_flats, by kp_flats, by kp_flats, by kp_flats⟩, rfl, R2, _, by kp_flats, hR7, hrel, hRw2, fun _ => hrnn⟩
          · rintro m₄ M₄ I₅ hI₅ ⟨⟨k1, k2, k3, k4⟩, rfl, sv, S, k5, k6, k7, k8, k9⟩
            have hdl : (ys.drop 1).length + 1 = Bs.length := by rw [List.length_drop]; omega
            rw [hdl, List.take_length] at k7 k9
            isplit
            refine Xs.cons ?_
            refine Xs.cut (fun fl m' L' I' => fl = .next ∧ (m' "cask" = some (.ref d) ∧ m' "width" = some (.int (W : Int) tW) ∧ m' "blocks" = some (.ref Bl) ∧ m' "made" = some R) ∧ L' = [(d, oc3)]) ?_ ?_
            · kst_mem
              refine l_len (I₀ := I₄) ⟨Bl, c, rfl, hBl4⟩ (by omega) (fun t15 => ?_) (by kqd_sub)
              kst_mem
              by_cases hlen : (1 : Int) < (ys.length : Int)
              · rw [decide_eq_true hlen]
                have hws : whole S = due Bs W := rel_whole k7 (k9 (by rw [List.length_drop]; omega)) k8.c
                have hwd : whole S = whole (bindRows W (rqs Bs)) := hws.trans hWR.symm
                kst_mem
                refine c_law_whole (okb.le (by decide)) hwb k6 k8.gd.wf.z0 k8.gd.wf.z1 (fun u1 J21 s21 hu1 => ?_) (List.Subset.refl _)
                kst_mem
                refine c_law_whole (okb.le (by decide)) hwb hR4 hRw.gd.wf.z0 hRw.gd.wf.z1 (fun u2 J22 s22 hu2 => ?_) (by kqd_sub)
                refine fun _ => ne_same (d := whole (bindRows W (rqs Bs))) okb (atI _ (hwd ▸ hu1.mono (sb (by kqd_sub)))) (atI _ hu2) hRk ?_
                kst_mem
                exact ⟨rfl, ⟨by kp_flats, by kp_flats, by kp_flats, by kp_flats⟩, rfl⟩
              · rw [decide_eq_false hlen]
                kst_mem
                exact ⟨rfl, ⟨by kp_flats, by kp_flats, by kp_flats, by kp_flats⟩, rfl⟩
            · rintro fl m₅ L₅ I₆ hI₆ ⟨rfl, ⟨g1, g2, g3, g4⟩, rfl⟩
              have hBl6 : (Bl, Li ys c) ∈ I₆ := (by kqd_sub : I₄ ⊆ I₆) hBl4
              have hps6 : PtsI w I₆ ys (Bs.map .mat) := hps4.mono (by kqd_sub)
              have hR6 : MatI w I₆ R (bindRows W (rqs Bs)) := hR4.mono (by kqd_sub)
              have hc6' : CaskO w I₆ oc3 (2 + 22 * NB) := hc4'.mono (by kqd_sub)
              clear hps4 hR4 hc4' k6
              have hR0 := hR6
              obtain ⟨riv, rvs, rav, rdv, rds, r1, r2, r3, ⟨rt1, rt2, r4, r4'⟩, r5⟩ := hR0
              obtain ⟨rkvs, rk1, rk2⟩ := r5.dim
              have hRnn : (bindRows W (rqs Bs)).n = (Bs.map (·.n)).sum := rows_n
              have hRkd : (bindRows W (rqs Bs)).kind = kmax (Bs.map (·.kind)) := rows_kind
              kst_mem
              rename_i tt
              refine g_attrs okb r1 rk1.handed ?_
              kst_mem
              refine d_item hwb rk1 rk2 ?_
              kst_mem
              refine g_items okb r4 r4'.handed ?_
              kst_mem
              refine l_item r4' (by decide) (by decide) rfl ?_
              kst_mem
              with_reducible refine' X_for_list okb fm ?f1 ?f2 ?_
              case f1 => k_places
              case f2 => exact fun _ => rfl
              kst_mem
              let J_4 : Nat → Map → Led → Led → Prop := fun i m' M' I' => (m' "cask" = some (.ref d) ∧ m' "width" = some (.int (W : Int) tW) ∧ m' "blocks" = some (.ref Bl) ∧ m' "made" = some R ∧ m' "height" = some (.int ((bindRows W (rqs Bs)).n : Int) rt1)) ∧ M' = [(d, oc3)] ∧ ∃ t, m' "top" = some (.int ((((Bs.take i).map (·.n)).sum : Nat) : Int) t)
              refine ⟨Bl, ys, c, rfl, hBl6, J_4,
                ⟨⟨by kp_flats, by kp_flats, by kp_flats, by kp_flats, by kp_flats⟩, rfl, tt, by kp_flats⟩, ?_, ?_⟩
              · rintro i bv m₆ M₆ I₇ hbv hI₇ ⟨⟨l1, l2, l3, l4, l5⟩, rfl, t6, l6⟩
                obtain ⟨B, hBi, hBv⟩ := MtsI.get hps6 hbv
                have hBm := List.mem_of_getElem? hBi
                have bk := hbk B hBm
                have hBn := bk.n
                have hBc := bk.c
                have hRc : (bindRows W (rqs Bs)).cols.length = W := hRw.c
                obtain ⟨iv, vs', av, dv, ds, h1, h2, h3, ⟨t1, t2, h4, h4'⟩, h5⟩ := hBv
                obtain ⟨kvs, hk, hx⟩ := h5.dim
                have hvl : vs'.length ≤ 400 := by rw [h3.length]; exact bk.gd.wf.flat
                have hrl : rvs.length ≤ 400 := by rw [r3.length]; exact hRw.gd.wf.flat
                have hsi := hsum i
                kst_mem
                refine g_attrs okb h1 hk.handed ?_
                kst_mem
                refine d_item hwb hk hx ?_
                kst_mem
                refine g_items okb h4 h4'.handed ?_
                kst_mem
                refine l_item h4' (by decide) (by decide) rfl ?_
                isplit
                refine Xs.cons ?_
                with_reducible refine' X_for_range okb fm ?f1 ?f2 ?_
                case f1 => k_places
                case f2 => exact fun _ => rfl
                kst_mem
                refine range_1 fun r u1 u2 u3 => ?_
                let J_5 : Nat → Map → Led → Led → Prop := fun j m' M' I' => (m' "cask" = some (.ref d) ∧ m' "width" = some (.int (W : Int) tW) ∧ m' "blocks" = some (.ref Bl) ∧ m' "made" = some R ∧ m' "height" = some (.int ((bindRows W (rqs Bs)).n : Int) rt1) ∧ m' "block" = some bv ∧ m' "tall" = some (.int (B.n : Int) t1) ∧ m' "top" = some (.int ((((Bs.take i).map (·.n)).sum : Nat) : Int) t6)) ∧ M' = [(d, oc3)]
                refine ⟨r, W, _, _, _, rfl, .head _, by omega, J_5,
                  ⟨⟨by kp_flats, by kp_flats, by kp_flats, by kp_flats, by kp_flats, by kp_flats, by kp_flats, by kp_flats⟩, rfl⟩, ?_, ?_⟩
                · rintro j tj m₇ M₇ I₈ hj hI₈ ⟨⟨q1, q2, q3, q4, q5, q6, q7, q8⟩, rfl⟩
                  have hcj : B.cols[j]? = some (B.cols[j]'(by omega)) := List.getElem?_eq_getElem _
                  have hcl : (B.cols[j]'(by omega)).length = B.n := bk.gd.wf.col _ (List.getElem_mem _)
                  have hcm : (B.cols[j]'(by omega)) ∈ B.cols := List.getElem_mem _
                  generalize (B.cols[j]'(by omega)) = col at hcj hcl hcm
                  kst_mem
                  with_reducible refine' X_for_range okb fm ?f1 ?f2 ?_
                  case f1 => k_places
                  case f2 => exact fun _ => rfl
                  kst_mem
                  refine range_1 fun r u1 u2 u3 => ?_
                  refine ⟨r, B.n, _, _, _, rfl, .head _, by omega, fun p m' M' I' => (m' "cask" = some (.ref d) ∧ m' "width" = some (.int (W : Int) tW) ∧ m' "blocks" = some (.ref Bl) ∧ m' "made" = some R ∧ m' "height" = some (.int ((bindRows W (rqs Bs)).n : Int) rt1) ∧ m' "block" = some bv ∧ m' "tall" = some (.int (B.n : Int) t1) ∧ m' "top" = some (.int ((((Bs.take i).map (·.n)).sum : Nat) : Int) t6) ∧ m' "column" = some (.int (j : Int) tj)) ∧ M' = [(d, oc3)],
                    ⟨⟨by kp_flats, by kp_flats, by kp_flats, by kp_flats, by kp_flats, by kp_flats, by kp_flats, by kp_flats, by kp_flats⟩, rfl⟩, ?_, ?_⟩
                  · rintro p tp m₈ M₈ I₉ hp hI₉ ⟨⟨x1, x2, x3, x4, x5, x6, x7, x8, x9⟩, rfl⟩
                    have hcp : col[p]? = some (col[p]'(by omega)) := List.getElem?_eq_getElem _
                    have hcpm : (col[p]'(by omega)) ∈ col := List.getElem_mem _
                    generalize (col[p]'(by omega)) = x at hcp hcpm
                    obtain ⟨u, hu1, hu2⟩ := DatAll.at h3 (flat_at bk.gd.wf.col hcj hcp)
                    have hub : j * B.n + p < vs'.length := (List.getElem?_eq_some_iff.mp hu1).1
                    obtain ⟨rc, hrc1, hrc2⟩ := rows_item hbw hBi hj hcj hcp
                    obtain ⟨z, hz1, hz2⟩ := DatAll.at r3 (flat_at hRw.gd.wf.col hrc1 hrc2)
                    have hzb := (List.getElem?_eq_some_iff.mp hz1).1
                    have e6 : ((j : Int) * (B.n : Int) + (p : Int)) = ((j * B.n + p : Nat) : Int) := by push_cast; rfl
                    have e7 : ((j : Int) * ((bindRows W (rqs Bs)).n : Int) + ((((Bs.take i).map (·.n)).sum : Nat) : Int) + (p : Int)) = ((j * (bindRows W (rqs Bs)).n + (((Bs.take i).map (·.n)).sum + p) : Nat) : Int) := by push_cast; omega
                    kst_mem
                    refine g_items okb h1 h2.handed ?_
                    kst_mem
                    refine mul_ii (small_mul (by omega) (by omega) (by omega) (by omega)) fun _ => ?_
                    kst_mem
                    rw [e6]
                    refine l_item h2 (by omega) (by omega) (by rw [Int.toNat_natCast]; exact hu1) ?_
                    kst_mem
                    refine g_kind okb h1 fun _ => ?_
                    kst_mem
                    refine g_kind okb r1 fun _ => ?_
                    kst_mem
                    rw [hRkd]
                    refine c_law_as (okb.le (by decide)) hu2 (bk.gd.it col hcm x hcpm) (fun u' I10 s10 hu' => ?_) (by kqd_sub)
                    kst_mem
                    refine g_items okb r1 r2.handed ?_
                    kst_mem
                    refine mul_ii (small_mul (by omega) (by omega) (by omega) (by omega)) fun _ => ?_
                    kst_mem
                    rw [e7]
                    refine l_item r2 (by omega) (by omega) (by rw [Int.toNat_natCast]; exact hz1) ?_
                    kst_mem
                    refine ne_same (d := cv B.kind (kmax (Bs.map (·.kind))) x) okb (atI _ (hz2.mono (sb (by kqd_sub)))) (atI _ hu') (kqd_cv (n := 7) (bk.gd.it col hcm x hcpm)) ?_
                    kst_mem
                    exact ⟨⟨by kp_flats, by kp_flats, by kp_flats, by kp_flats, by kp_flats, by kp_flats, by kp_flats, by kp_flats, by kp_flats⟩, rfl⟩
                  · rintro m₈ M₈ I₉ hI₉ ⟨⟨x1, x2, x3, x4, x5, x6, x7, x8, x9⟩, rfl⟩
                    kst_mem
                    exact ⟨⟨by kp_flats, by kp_flats, by kp_flats, by kp_flats, by kp_flats, by kp_flats, by kp_flats, by kp_flats⟩, rfl⟩
                · rintro m₇ M₇ I₈ hI₈ ⟨⟨q1, q2, q3, q4, q5, q6, q7, q8⟩, rfl⟩
                  kst_mem
                  rename_i t9
                  refine ⟨⟨by kp_flats, by kp_flats, by kp_flats, by kp_flats, by kp_flats⟩, rfl, t9, ?_⟩
                  have hns : ((((Bs.take (i + 1)).map (·.n)).sum : Nat) : Int) = ((((Bs.take i).map (·.n)).sum : Nat) : Int) + (B.n : Int) := by
                    rw [List.take_add_one, hBi, List.map_append, List.sum_append]; push_cast; simp
                  rw [hns]; exact upd_at
              · rintro m₆ M₆ I₇ hI₇ ⟨⟨l1, l2, l3, l4, l5⟩, rfl, t6, l6⟩
                kst_mem
                have hBl7 : (Bl, Li ys c) ∈ I₇ := (by kqd_sub : I₆ ⊆ I₇) hBl6
                have hv7 : MatI w I₇ v0 B0 := hv0'.mono (by kqd_sub)
                refine l_item (I₀ := I₇) ⟨Bl, c, rfl, hBl7⟩ (by decide) (by decide) hv0 ?_
                kst_mem
                refine c_vector_row (n := 2 + 22 * NB) (okb.le (by decide)) hwb (fun oc => [(d, oc)]) .head (hc6'.mono (by kqd_sub)) (by omega) hv7 (hbk B0 hB0m) hW1 hW3 (fun o8 I8 s8 hc8 => ?_) (List.Subset.refl _)
                kst_mem
                refine l_item (I₀ := I₇) ⟨Bl, c, rfl, hBl7⟩ (by decide) (by decide) hv0 ?_ s8
                kst_mem
                refine hRef (hv7.mono s8) (hbk B0 hB0m) hW1 hW3 (fun I9 s9 => ?_) (List.Subset.refl _)
                rfl
end
end
section
open PySem.Spec

theorem dict_mapFields (o : Obj) (f) : (o.mapFields f).dict = o.dict := by
  obtain ⟨c, d, dt, sl⟩ := o
  cases dt <;> rfl

/-- an exception under way: its class, its dict, the head of its traceback with the flight's mark -/
noncomputable def TrD (h B : Heap) (e : Addr) (cls : Value) (dx : Option Addr) (fl : Value) : Prop :=
  ∃ oe vs T oT ts, h.get? e = some oe ∧ oe.cls = cls ∧ oe.dict = dx ∧ oe.data = .fields vs ∧ vs[1]? = some (.ref T) ∧ B.get? T = none ∧ T ≠ e ∧ h.get? T = some oT ∧ oT.data = .fields ts ∧ ts[3]? = some fl
structure InF (B : Heap) (l : List Env) (e : Addr) (cls : Value) (dx : Option Addr) (fl : Value) (h : Heap) : Prop where
  st : B.StaysIn h
  en : B.get? e = none
  ff : h.FunFrames B l
  tr : TrD h B e cls dx fl
/-- what stands on: the ground and all that is no record, but for its slots -/
structure Mv (B h h' : Heap) : Prop where
  st : B.StaysIn h'
  up : h.UpToSlots h'
theorem Mv.trans {B h h₁ h₂ : Heap} (x : Mv B h h₁) (y : Mv B h₁ h₂) : Mv B h h₂ := ⟨y.st, x.up.trans y.up⟩
theorem Mv.ff {B h h' : Heap} (x : Mv B h h') {l : List Env} (f : h.FunFrames B l) : h'.FunFrames B l :=
  f.of_keeps fun b o hb hn => by
    obtain ⟨sl, hs⟩ := x.up b o hb hn
    exact ⟨_, hs, rfl⟩
theorem mv_upd {B h : Heap} {T : Addr} {oT : Obj} {ts : Array Value} (st : B.StaysIn h) (hn : B.get? T = none) (hT : h.get? T = some oT) (hd : oT.data = .fields ts) (F : Obj → Obj) : Mv B h (h.update T F) := by
  refine ⟨fun b o hb => ?_, fun b o hb hf => ?_⟩
  · have ne : T ≠ b := fun q => by rw [← q, hn] at hb; cases hb
    rw [Heap.get?_update_other _ _ ne]; exact st b o hb
  · have ne : T ≠ b := fun q => by rw [← q, hT] at hb; cases hb; exact hf ts hd
    refine ⟨o.slots, ?_⟩
    rw [Heap.get?_update_other _ _ ne]; exact hb
theorem mv_push {B h : Heap} (st : B.StaysIn h) (o : Obj) : Mv B h (h.push o) :=
  ⟨fun b o hb => Heap.get?_push_of_some _ (st b o hb), fun b o hb _ => ⟨o.slots, Heap.get?_push_of_some _ hb⟩⟩
theorem mv_slots {B h h' : Heap} {l : List Env} (st : B.StaysIn h) (ff : h.FunFrames B l) (x : Heap.SlotsOnly (l.filterMap (·.frame)) h h') : Mv B h h' :=
  ⟨fun b o hb => (x.2.1 b fun hm => by rw [(ff.mem hm).1] at hb; cases hb).trans (st b o hb), fun b o hb _ => x.2.2 b o hb⟩
theorem upd_at_f {h : Heap} {T : Addr} {oT : Obj} {ts : Array Value} (hT : h.get? T = some oT) (hd : oT.data = .fields ts) (f : Array Value → Array Value) : (h.update T (Obj.mapFields f)).get? T = some (oT.mapFields f) :=
  Heap.get?_update_self _ hT (Obj.isFreed_of_fields (Obj.data_mapFields hd f))

section
variable {M : Model} {A : Around} {E : Value → Shared → Prop} {s : Shared} {B : Heap} {l : List Env} {e L : Addr} {cls : Value} {dx : Option Addr} {fl : Value} {Q : Unit → Shared → Prop} {env : Env} {outer : List Env}
/-- the flight's mark is taken off -/
theorem flightD (I : InF B l e cls dx fl s.heap) (h : ∀ h', InF B l e cls dx .none h' → s.heap.UpToSlots h' → Q () { s with heap := h' }) : wpAny M A (setFlight (.ref e) none) Q E s := by
  obtain ⟨st, en, ff, oe, vs, T, oT, ts, he, hc, hx, hd, h1, hn, ne, hT, hdT, h3⟩ := I
  unfold setFlight
  refine wpAny_bind (wpAny_field he hd h1 ?_)
  rw [if_pos (show (Value.ref T != Value.none) = true from by simp)]
  have hz := (Array.getElem?_eq_some_iff.mp h3).1
  have mv := mv_upd st hn hT hdT (Obj.mapFields (·.setIfInBounds 3 ((none : Option Addr).elim Value.none fun f => rawInt f)))
  refine wpAny_setField hT hdT hz (h _ ⟨mv.st, en, mv.ff ff, oe, vs, T, _, _, ?_, hc, hx, hd, h1, hn, ne, upd_at_f hT hdT _, Obj.data_mapFields hdT _, by simp [hz]⟩ mv.up)
  rw [Heap.get?_update_other _ _ ne]; exact he
/-- a new head of the traceback -/
theorem entryD {oe : Obj} {vs : Array Value} {head : Value} {hadNext : Bool} (hfr : A.frames = some (env :: outer)) (ff : s.heap.FunFrames B (env :: outer)) (hf : env.frame = some L) (he : s.heap.get? e = some oe) (st : B.StaysIn s.heap) (en : B.get? e = none)
    (hd : oe.data = .fields vs) (hz : 1 < vs.size) (h : ∀ h', InF B (env :: outer) e oe.cls oe.dict (rawInt L) h' → s.heap.UpToSlots h' → Q () { s with heap := h' }) :
    wpAny M A (do let a ← frameOf env; let pl ← entryPlaceOf L hadNext; let b ← EntryCells.newEntry head a .none (rawInt L) .none pl; setField (.ref e) 1 b) Q E s := by
  have off : e ∉ (env :: outer).filterMap (·.frame) := fun hm => by
    obtain ⟨_, o, ho, hn⟩ := ff.mem hm
    rw [he] at ho; cases ho; exact hn vs hd
  refine wpAny_bind (wpAny_frameOf_fun hfr ff hf fun h₁ x => wpAny_bind (wpAny_entryPlaceOf fun pl hpl => ?_))
  have m1 := mv_slots st ff x
  have he1 : h₁.get? e = some oe := (x.2.1 e off).trans he
  unfold EntryCells.newEntry newFields
  refine wpAny_bind (wpAny_newObj_type ?_ (hpl.sizeOk5 _ _ _ _ _))
  have m2 := m1.trans (mv_push m1.st { cls := .type "traceback", dict := none, data := .fields ([head, .ref L, .none, rawInt L, .none] ++ (if pl.isEmpty then List.replicate 6 Value.none else pl)).toArray })
  have he2 := Heap.get?_push_of_some (h := h₁) { cls := .type "traceback", dict := none, data := .fields ([head, .ref L, .none, rawInt L, .none] ++ (if pl.isEmpty then List.replicate 6 Value.none else pl)).toArray } he1
  have m3 := m2.trans (mv_upd m2.st en he2 hd (Obj.mapFields (·.setIfInBounds 1 (Value.ref h₁.objs.size))))
  have ne : h₁.objs.size ≠ e := Nat.ne_of_gt (Heap.lt_size he1)
  refine wpAny_setField he2 hd hz (h _ ⟨m3.st, en, m3.ff ff, _, _, h₁.objs.size, _, _, upd_at_f he2 hd _, Obj.cls_mapFields _ _, dict_mapFields _ _, Obj.data_mapFields hd _, by simp [hz], m1.st.fresh, ne,
    (Heap.get?_update_other _ _ (Ne.symm ne)).trans (Heap.get?_push_size h₁ rfl), rfl, ?_⟩ m3.up)
  first | (simp; done) | (rcases hpl with rfl | ⟨_, _, _, _, _, _, _, rfl⟩ <;> simp)
/-- the first note: the exception has no traceback yet -/
theorem note0D {oe : Obj} {vs : Array Value} (hfr : A.frames = some (env :: outer)) (ff : s.heap.FunFrames B (env :: outer)) (hf : env.frame = some L) (he : s.heap.get? e = some oe) (st : B.StaysIn s.heap) (en : B.get? e = none)
    (hd : oe.data = .fields vs) (h1 : vs[1]? = some .none) (h : ∀ h', InF B (env :: outer) e oe.cls oe.dict (rawInt L) h' → s.heap.UpToSlots h' → Q () { s with heap := h' }) : wpAny M A (noteFrame (.ref e) env) Q E s := by
  unfold noteFrame
  simp only [hf]
  refine wpAny_bind (wpAny_field he hd h1 ?_)
  rw [if_neg (by decide)]
  exact entryD hfr ff hf he st en hd (Array.getElem?_eq_some_iff.mp h1).1 h
/-- a later note -/
theorem noteD (hfr : A.frames = some (env :: outer)) (hf : env.frame = some L) (I : InF B (env :: outer) e cls dx .none s.heap)
    (h : ∀ h', InF B (env :: outer) e cls dx (rawInt L) h' → s.heap.UpToSlots h' → Q () { s with heap := h' }) : wpAny M A (noteFrame (.ref e) env) Q E s := by
  obtain ⟨st, en, ff, oe, vs, T, oT, ts, he, hc, hx, hd, h1, hn, ne, hT, hdT, h3⟩ := I
  subst hc hx
  unfold noteFrame
  simp only [hf]
  refine wpAny_bind (wpAny_field he hd h1 ?_)
  rw [if_pos (show (Value.ref T != Value.none) = true from by simp)]
  refine wpAny_bind (wpAny_field hT hdT h3 ?_)
  rw [if_neg (show ¬ ((Value.none == rawInt L) = true) from by simp [rawInt])]
  have mv := mv_upd st hn hT hdT (Obj.mapFields (·.setIfInBounds 3 Value.none))
  refine wpAny_bind (wpAny_setField hT hdT (Array.getElem?_eq_some_iff.mp h3).1 ?_)
  refine entryD hfr (mv.ff ff) hf ?_ mv.st en hd (Array.getElem?_eq_some_iff.mp h1).1 fun h' i u => h h' i (mv.up.trans u)
  rw [Heap.get?_update_other _ _ ne]; exact he
theorem InF.there {h : Heap} (I : InF B l e cls dx fl h) : ∃ oe vs, h.get? e = some oe ∧ oe.cls = cls ∧ oe.dict = dx ∧ oe.data = .fields vs := by
  obtain ⟨_, _, _, oe, vs, _, _, _, he, hc, hx, hd, _⟩ := I
  exact ⟨oe, vs, he, hc, hx, hd⟩
end

/-- under way over the frames l: base ⊆ B, the caller's ground G but for the frames, the ledger -/
noncomputable def Rz (base G : Heap) (l : List Env) (e : Addr) (cls : Value) (dx : Option Addr) (news : Led) (h : Heap) : Prop :=
  ∃ B, base.StaysIn B ∧ (∀ b o, G.get? b = some o → b ∉ l.filterMap (·.frame) → B.get? b = some o) ∧ (∀ q ∈ news, B.get? q.1 = some q.2 ∧ G.get? q.1 = none ∧ base.get? q.1 = none) ∧ InF B l e cls dx .none h

theorem mem_frames {env : Env} {outer : List Env} {L b : Addr} (hf : env.frame = some L) (hm : b ∈ (env :: outer).filterMap (·.frame)) : b = L ∨ b ∈ outer.filterMap (·.frame) := by
  obtain ⟨v, hv, h⟩ := List.mem_filterMap.mp hm
  rcases List.mem_cons.mp hv with rfl | hv
  · rw [hf] at h; exact .inl (Option.some.inj h).symm
  · exact .inr (List.mem_filterMap.mpr ⟨v, hv, h⟩)
theorem frames_mem {env : Env} {outer : List Env} {L : Addr} (hf : env.frame = some L) : L ∈ (env :: outer).filterMap (·.frame) := List.mem_filterMap.mpr ⟨env, .head _, hf⟩
theorem frames_sub {env : Env} {outer : List Env} {b : Addr} (hm : b ∈ outer.filterMap (·.frame)) : b ∈ (env :: outer).filterMap (·.frame) := by
  obtain ⟨v, hv, h⟩ := List.mem_filterMap.mp hm
  exact List.mem_filterMap.mpr ⟨v, .tail _ hv, h⟩
theorem ff_hide {base h : Heap} {as : List Addr} : ∀ {l : List Env}, h.FunFrames base l → (∀ b ∈ l.filterMap (·.frame), b ∈ as) → h.FunFrames (hideAll h as) l
  | [], _, _ => trivial
  | env :: r, ⟨hk, ⟨L, o, hf, _, ho, hd⟩, hr⟩, hin => ⟨hk, ⟨L, o, hf, hideAll_none _ (hin L (frames_mem hf)), ho, hd⟩, ff_hide hr fun b hb => hin b (frames_sub hb)⟩
end
section
open PySem.Spec

/-- the dict of a refusal -/
noncomputable def MsgO (msg : Str) (od : Obj) : Prop := ∃ t, FD [("message", .str msg t)] od
/-- a refusal has left into the act's frames; K of the ledger stands -/
noncomputable def Fly (a : Act) (K : Led) (msg : Str) (s : Shared) (ev : Value) (s' : Shared) : Prop :=
  Same s s' ∧ ∃ e dx od g mf news, ev = .ref e ∧ MsgO msg od ∧ Fr a.h₀ a.L g mf ∧ g.UpToSlots s'.heap ∧ K ⊆ news ∧ (dx, od) ∈ news ∧ Rz a.base g (a.fenv :: a.outer) e (.ref 51) (some dx) news s'.heap
theorem Fly.mono {a : Act} {K K' : Led} {msg : Str} {s s₁ : Shared} {ev : Value} {s' : Shared} (h : Fly a K msg s₁ ev s') (hs : Same s s₁) (hK : K' ⊆ K) : Fly a K' msg s ev s' := by
  obtain ⟨h1, e, dx, od, g, mf, news, h2, h3, h4, h5, h6, h7⟩ := h
  exact ⟨hs.trans h1, e, dx, od, g, mf, news, h2, h3, h4, h5, hK.trans h6, h7⟩

noncomputable def Rx {α : Type} (a : Act) (t : Sem α) (m : Map) (M I K : Led) (msg : Str) : Prop :=
  ∀ mf H s, Holds a mf H m → Sit a mf H M I s → wpAny (model PG a.w) a.A t (fun _ _ => False) (Fly a (H ++ K) msg s) s
noncomputable def Rs (a : Act) (t : Sem Flow) (m : Map) (M I K : Led) (msg : Str) : Prop :=
  ∀ mf G R s, Holds a mf G m → Sit a mf (G ++ R) M I s → wpAny (model PG a.w) a.A t (fun _ _ => False) (Fly a (R ++ K) msg s) s
/-- a refusal just raised, in the ledger's head -/
noncomputable def Xr (K : Led) (msg : Str) : Post Value := fun ev M' I' => ∃ e oe dx od vs M'', ev = .ref e ∧ M' = (e, oe) :: M'' ∧ oe.cls = .ref 51 ∧ oe.dict = some dx ∧ oe.data = .fields vs ∧ vs[1]? = some .none ∧ MsgO msg od ∧ (dx, od) ∈ M'' ++ I' ∧ K ⊆ M'' ++ I'

section
variable {α β : Type} {a : Act} {m : Map} {M I K : Led} {msg : Str} {n : Nat}
theorem Rx.bind {t : Sem β} {f : β → Sem α} (h : Ex a t m M I (fun v M' I' => I ⊆ I' → Rx a (f v) m M' I' K msg) noX) : Rx a (t >>= f) m M I K msg := by
  intro mf H s hm S
  refine wpAny_bind (wpAny_mono (h mf H s hm S) ?_ ?_)
  · rintro v s' ⟨M', I', S', hI, hs, k⟩
    exact wpAny_mono (k hI mf H s' hm S') (fun _ _ h => h) fun _ _ h => h.mono hs (fun _ h => h)
  · rintro v s' ⟨M', I', S', hI, hs, k⟩
    exact k.elim
theorem Rx.freeze {t : Sem α} {p : Addr × Obj} (h : Rx a t m M (p :: I) K msg) : Rx a t m (p :: M) I K msg := fun mf H s hm S => h mf H s hm S.freeze
theorem Rs.freeze {t : Sem Flow} {p : Addr × Obj} (h : Rs a t m M (p :: I) K msg) : Rs a t m (p :: M) I K msg := fun mf G R s hm S => h mf G R s hm S.freeze
theorem Rs.next {fenv : Env} {st : Stmt} {rest : List Stmt} (h : Xs a (exec st fenv) m M I (fun fl m' M' I' => match fl with | .next => I ⊆ I' → Rs a (execs rest fenv) m' M' I' K msg | _ => False) noX) : Rs a (execs (st :: rest) fenv) m M I K msg := by
  intro mf G R s hm S
  refine wpAny_execs_cons (wpAny_mono (h mf G R s hm S) ?_ ?_)
  · rintro fl s' ⟨mf', G', m', M', I', hm', S', hI, hs, k⟩
    cases fl with
    | next => exact wpAny_mono (k hI mf' G' R s' hm' S') (fun _ _ h => h) fun _ _ h => h.mono hs (fun _ h => h)
    | _ => exact k.elim
  · rintro v s' ⟨_, _, M', I', S', hI, hs, k⟩
    exact k.elim
theorem Rs.last {fenv : Env} {st : Stmt} {rest : List Stmt} (h : Rs a (exec st fenv) m M I K msg) : Rs a (execs (st :: rest) fenv) m M I K msg := by
  intro mf G R s hm S
  exact wpAny_execs_cons (wpAny_mono (h mf G R s hm S) (fun _ _ h => h.elim) fun _ _ h => h)
theorem Rs.ofRx {mf : Map} {G R : Led} {s : Shared} {e s'} (h : Fly a ((G ++ R) ++ K) msg s e s') : Fly a (R ++ K) msg s e s' := h.mono .rfl' (by
  intro q hq
  rw [List.append_assoc]
  exact List.mem_append_right _ hq)
theorem R_assign {x xp value pos} (hsw : swapsWith value (some (.Name x xp)) pos.line a.env = pure false) (h : Rx a (eval value a.env) m M I K msg) : Rs a (exec (.Assign [.Name x xp] value pos) a.env) m M I K msg := by
  intro mf G R s hm S
  exact wpAny_Assign_Name (wpAny_mono (h mf (G ++ R) s hm.more S) (fun _ _ h => h.elim) fun _ _ h => Rs.ofRx (mf := mf) h) hsw
theorem R_expr {e pos} (hi : interactive a.env = false) (hsw : swapsWith e none pos.line a.env = pure false) (h : Rx a (eval e a.env) m M I K msg) : Rs a (exec (.Expr e pos) a.env) m M I K msg := by
  intro mf G R s hm S
  exact wpAny_Expr_any (wpAny_mono (h mf (G ++ R) s hm.more S) (fun _ _ h => h.elim) fun _ _ h => Rs.ofRx (mf := mf) h) hi hsw
theorem R_callK (ok : a.Ok n) {x xp e es pos f} (hf : nsIn (hd.heap_39 a.w.params) mainGlobals x = some (some f)) (hk : a.env.kindOf x = some .globalImplicit) (hq : keepIn (hd.heap_39 a.w.params) f = true)
    (h : Es a (e :: es) pos m M I (fun vs M' I' => I ⊆ I' → Rx a (call f vs) m M' I' K msg) noX) (hn : notStar e = true := by rfl) (hn2 : (backTo pos (starEach es a.env)).any (·.1) = false := by rfl) (hx : (x == ("__debug__" : Str)) = false := by decide)
    (hs : eval (.Call (.Name x xp) (e :: es) [] pos) a.env = (do callWith pos (← eval (.Name x xp) a.env) [] (backTo pos (starEach (e :: es) a.env)) (backToKw pos (keywordEach [] a.env))) := by rfl) : Rx a (eval (.Call (.Name x xp) (e :: es) [] pos) a.env) m M I K msg := by
  intro mf H s hm S
  refine Call_ (wpAny_mono (E_global (Q := fun v M' I' => v = f ∧ M' = M ∧ I' = I) (X := noX) ok hf hk ⟨rfl, rfl, rfl⟩ hx mf H s hm S) ?_ ?_) hs
  · rintro v s' ⟨M', I', S', -, hs', rfl, rfl, rfl⟩
    refine callWith_K (h₀ := a.h₀) ok.X hq (wpAny_mono (h mf H s' hm S') ?_ ?_) (starEach_cons hn) hn2
    · rintro vs s'' ⟨M2, I2, S2, hI, hs2, k⟩
      exact ⟨S2.keepK ok, wpAny_mono (k hI mf H s'' hm S2) (fun _ _ h => h.elim) fun _ _ h => h.mono (hs'.trans hs2) (fun _ h => h)⟩
    · rintro v s'' ⟨M2, I2, S2, hI, hs2, k⟩
      exact k.elim
  · rintro v s' ⟨M', I', S', -, hs', k⟩
    exact k.elim

theorem nodup_head {G N : Led} {p : Addr × Obj} (d : ((G ++ p :: N).map (·.1)).Nodup) : ∀ q ∈ G ++ N, q.1 ≠ p.1 := by
  have d := (nodup_perm (List.perm_middle (l₁ := G) (l₂ := N) (a := p)).symm d)
  rw [List.map_cons, List.nodup_cons] at d
  intro q hq e
  exact d.1 (List.mem_map.mpr ⟨q, hq, e⟩)

/-- an exception of the act's own leaves its frame -/
theorem leave1 {M' : Model} {b : Act} (ok : b.Ok n) {mf : Map} {H Ms : Led} {s' : Shared} {e : Addr} {oe : Obj} {dx : Addr} {vs : Array Value} {E : Value → Shared → Prop} {Q : Unit → Shared → Prop} (S : Sit b mf H ((e, oe) :: Ms) I s')
    (hc : oe.cls = .ref 51) (hx : oe.dict = some dx) (hd' : oe.data = .fields vs) (h1 : vs[1]? = some .none)
    (hQ : ∀ h', Rz b.base b.h₀ b.outer e (.ref 51) (some dx) (H ++ (Ms ++ I)) h' → b.h₀.UpToSlots h' → Q () { s' with heap := h' }) : wpAny M' b.A (leaving b.fenv (.ref e)) Q E s' := by
  have hm : (e, oe) ∈ H ++ ((e, oe) :: Ms ++ I) := List.mem_append_right _ (.head _)
  have hE := S.N _ hm
  have apart : ∀ q ∈ H ++ (Ms ++ I), q.1 ≠ e := nodup_head (G := H) (N := Ms ++ I) (p := (e, oe)) S.D
  have nL : b.h₀.get? b.L = none := kts_self S.F
  have hF : ∀ x, x ∈ (b.fenv :: b.outer).filterMap (·.frame) → x = b.L ∨ x ∈ b.outer.filterMap (·.frame) := fun x hx => mem_frames ok.hf hx
  have ff0 : s'.heap.FunFrames b.base (b.fenv :: b.outer) :=
    Heap.FunFrames.cons (by rw [ok.hk]; decide) ok.hf S.F.ns (fresh_of_stays ok.B.stays nL) (ok.B.frames.of_keeps fun x o ho _ => ⟨o, S.F.keep _ _ ho, rfl⟩)
  have sub : ∀ x, x ∈ (b.fenv :: b.outer).filterMap (·.frame) → x ∈ e :: (b.fenv :: b.outer).filterMap (·.frame) := fun x h => .tail _ h
  have en : (hideAll s'.heap (e :: (b.fenv :: b.outer).filterMap (·.frame))).get? e = none := hideAll_none _ (.head _)
  have g1 : ∀ x o, b.h₀.get? x = some o → x ∉ b.outer.filterMap (·.frame) → (hideAll s'.heap (e :: (b.fenv :: b.outer).filterMap (·.frame))).get? x = some o := fun x o ho hn => hideAll_get _ (S.F.keep _ _ ho) fun hm' => by
    rcases List.mem_cons.mp hm' with rfl | hm'
    · rw [hE.2.2] at ho; cases ho
    · rcases hF x hm' with rfl | hm'
      · rw [nL] at ho; cases ho
      · exact hn hm'
  unfold leaving
  refine wpAny_bind (note0D ok.hA (ff_hide ff0 sub) ok.hf hE.1 (fun x o ho => of_hideAll _ ho) en hd' h1 fun h₁ i1 u1 => ?_)
  refine flightD i1 fun h₂ i2 u2 => ?_
  rw [hc, hx] at i2
  refine hQ h₂ ⟨_, fun x o ho => g1 x o (ok.B.stays _ _ ho) fun hm' => ?_, g1, fun q hq => ?_, i2.st, i2.en, ?_, i2.tr⟩ (((Heap.UpToSlots.of_keeps S.F.keep).trans u1).trans u2)
  · rw [(ok.B.frames.mem hm').1] at ho; cases ho
  · have hq' := S.N q (by
      rcases List.mem_append.mp hq with h | h
      · exact List.mem_append_left _ h
      · exact List.mem_append_right _ (.tail _ h))
    refine ⟨hideAll_get _ hq'.1 fun hm' => ?_, hq'.2.2, fresh_of_stays ok.B.stays hq'.2.2⟩
    rcases List.mem_cons.mp hm' with h | hm'
    · exact apart q hq h
    · rcases hF _ hm' with h | hm'
      · exact hq'.2.1 h
      · obtain ⟨_, o, ho, _⟩ := ok.B.frames.mem hm'
        rw [hq'.2.2] at ho; cases ho
  · obtain ⟨_, _, x⟩ := i2.ff
    exact x
/-- an exception that came in leaves the act's frame -/
theorem leave2 {M' : Model} {b : Act} (ok : b.Ok n) {mf : Map} {g : Heap} {s' : Shared} {e dx : Addr} {news : Led} {E : Value → Shared → Prop} {Q : Unit → Shared → Prop} (F : Fr b.h₀ b.L g mf) (u : g.UpToSlots s'.heap)
    (R : Rz b.base g (b.fenv :: b.outer) e (.ref 51) (some dx) news s'.heap)
    (hQ : ∀ h', Rz b.base b.h₀ b.outer e (.ref 51) (some dx) news h' → b.h₀.UpToSlots h' → Q () { s' with heap := h' }) : wpAny M' b.A (leaving b.fenv (.ref e)) Q E s' := by
  obtain ⟨B, r1, r2, r3, r4⟩ := R
  unfold leaving
  refine wpAny_bind (noteD ok.hA ok.hf r4 fun h₁ i1 u1 => ?_)
  refine flightD i1 fun h₂ i2 u2 => ?_
  refine hQ h₂ ⟨B, r1, fun x o ho hn => r2 x o (F.keep _ _ ho) fun hm' => ?_, fun q hq => ⟨(r3 q hq).1, kts_none F.keep (r3 q hq).2.1, (r3 q hq).2.2⟩, i2.st, i2.en, ?_, i2.tr⟩ ((((Heap.UpToSlots.of_keeps F.keep).trans u).trans u1).trans u2)
  · rcases mem_frames ok.hf hm' with rfl | hm'
    · rw [kts_self F] at ho; cases ho
    · exact hn hm'
  · obtain ⟨_, _, x⟩ := i2.ff
    exact x

/-- into a callee that only raises -/
theorem Rx_enter (ok : a.Ok (n + 1)) {name qual : Str} {params : Arguments} {body : List Stmt} {scope : Scope} {dV kV doc pm cdv ct oc : Value} {an od : Option Addr} {osl : Array (Option Value)} {f : Addr} {args : List Value} {binds : List (Str × Value)}
    (ho : (hd.heap_39 a.w.params).lookup f = some ⟨oc, od, .func (fnOf name qual params body scope dV kV doc pm an cdv ct), osl⟩) (hcd : codeIn (hd.heap_39 a.w.params) cdv qual = true)
    (hbind : ∀ s : Shared, (hd.heap_39 a.w.params).In s.heap → BindsTo s (fnOf name qual params body scope dV kV doc pm an cdv ct) ⟨args, []⟩ binds)
    (hkind : (binds.all fun y => scope.names.lookup y.1 == some .local || scope.names.lookup y.1 == some .cell) = true) (hnd : ((cellsFrom 0 scope.names []).map (·.1)).Nodup)
    (hco : scope.isCoroutine = false) (hgen : scope.isGenerator = false) (hk : scope.kind = .function)
    (h : ∀ b : Act, b.Ok n → b.w = a.w → Fm b scope → b.base = a.base → b.outer = a.fenv :: a.outer → ∀ mf mfb cells H s s₁, Same s s₁ → Fr a.h₀ a.L b.h₀ mf → Holds b mfb cells (bindM binds fun _ => none) → Sit b mfb (cells ++ H) M I s₁ →
      wpAny (model PG b.w) b.A (execs body b.env) (fun _ _ => False) (fun e s' => wpAny (model PG b.w) b.A (leaving b.fenv e) (fun _ s'' => Fly a (H ++ K) msg s e s'') (fun _ _ => False) s') s₁) : Rx a (call (.ref f) args) m M I K msg := by
  intro mf H s hm S
  obtain ⟨p, l, me, mg, mb, T⟩ := ok.T
  refine wpAny_call ?_
  refine code_defC ok.B S.F ok.X S.N T ok.hA ok.hf ok.hk ho hcd (by have := ok.hd; have : recursionLimit = 1000 := rfl; omega) (hbind s (S.keepK ok)) hkind hnd ?_ hco hgen hk
  intro g L' h₁ tk cells FG F' N' Y B' X' T' fr
  let env' := envOfC qual scope L' f cdv
  let b : Act := ⟨a.w, a.A.deeper env', a.A, a.base, a.fenv :: a.outer, g, L', env', env'⟩
  have okb : b.Ok n := {
    X := X'
    T := ⟨p, l, me, mg, mb, T'⟩
    XB := ok.XB
    TB := ok.TB
    B := B'
    hA := Around.frames_deeper ok.hA
    hf := rfl
    hk := hk
    hh := ok.hh
    hd := by show a.A.depth + 1 + 2 * n ≤ 900; have := ok.hd; omega
    hu := by show a.A.units + 3 + 8 * n ≤ 9000; have := ok.hu; omega
    ek := hk
    eg := rfl
    eb := rfl }
  have cn := cellsFrom_nodup scope.names (L' + 1) (L' + 1) [] .nil (fun _ h => nomatch h) (Nat.le_refl _)
  have hb : Holds b (bindL env'.kindOf binds fun _ => none) cells (bindM binds fun _ => none) := by
    refine ⟨fun x v e q => .inl ⟨rfl, ?_⟩, fun x q => ?_⟩
    · rw [← e]; exact bindL_at q binds _ _ rfl
    · have c0 : (scope.names.lookup x = some .cell) := q
      obtain ⟨c, hc⟩ := Option.isSome_iff_exists.mp (cellsFrom_some scope.names (L' + 1) [] (.inl c0))
      obtain ⟨o, h1, h2⟩ := cells_at Y hc
      refine ⟨c, o, _, hc, h1, h2, fun v e => ?_⟩
      rw [← e]
      exact bindC_at (k := env'.kindOf) q binds _ _ rfl
  have Sb : Sit b (bindL env'.kindOf binds fun _ => none) (cells ++ H) M I { s with heap := h₁, toks := tk } := by
    refine ⟨F', ?_, ?_⟩
    · rw [List.append_assoc]; exact N'
    · rw [List.append_assoc, List.map_append, List.nodup_append]
      refine ⟨by rw [cells_map Y]; exact cn.1, S.D, ?_⟩
      intro x hx y hy e
      rw [cells_map Y] at hx
      obtain ⟨c, hc, rfl⟩ := List.mem_map.mp hx
      obtain ⟨q, hq, rfl⟩ := List.mem_map.mp hy
      have h1 := cn.2 c hc
      have h2 := fr q hq
      rw [e] at h1
      exact Nat.lt_irrefl _ (Nat.lt_of_lt_of_le h2 (Nat.le_of_succ_le h1))
  refine wpAny_mono (h b okb rfl ⟨rfl, rfl, rfl, rfl, fun x y c h1 h2 => lookup_inj cn.1 h1 h2⟩ rfl rfl _ _ cells H s _ ⟨rfl, rfl, rfl⟩ FG hb Sb) (fun _ _ h => h.elim) ?_
  intro e s' h'
  exact wpAny_mono h' (fun _ _ h => h) fun _ _ h => h.elim
end
end
section
open PySem.Spec Builtin Builtin.ObjectAttr

section
variable {prog : Program} {w : World} {A : Around} {E : Value → Shared → Prop} {s : Shared} {P : Params}
theorem cls_pack {K : Frag} {C : Addr} {cd : ClassData} {R : ClassData → Prop} (h : clsIn K C = some cd) (p : R cd) : ∃ cd, clsIn K C = some cd ∧ R cd := ⟨cd, h, p⟩
theorem mro51 {M : Model} {h : Heap} (X : (hd.heap_39 P).In h) : Looks M h (mroOf (.ref 51)) [.ref 51, .ref 31, .type "Exception", .type "BaseException", .type "object"] := by
  have hc : ∃ cd, clsIn (hd.heap_39 P) 51 = some cd ∧ cd.mro = [.ref 51, .ref 31, .type "Exception", .type "BaseException", .type "object"] := by
    refine' cls_pack ?a ?_
    case a => k_is
    rfl
  obtain ⟨cd, h1, h2⟩ := hc
  rw [← h2]
  exact (looks_clsIn X h1).andThen .now
theorem has51 {M : Model} {h : Heap} (X : (hd.heap_39 P).In h) : ∃ cd, Looks M h (classData 51) cd ∧ cd.hasDict = true := by
  have hc : ∃ cd, clsIn (hd.heap_39 P) 51 = some cd ∧ cd.hasDict = true := by
    refine' cls_pack ?a ?_
    case a => k_is
    rfl
  obtain ⟨cd, h1, h2⟩ := hc
  exact ⟨cd, looks_clsIn X h1, h2⟩

/-- self.message = v where self is a refusal without a dict yet -/
theorem set_msg {x : Addr} {oe : Obj} {vs : Array Value} {v : Value} {Q : Unit → Shared → Prop} (hw : w.params = P) (X : (hd.heap_39 P).In s.heap) (hx : s.heap.get? x = some oe) (hc : oe.cls = .ref 51) (hn : oe.dict = none) (hd' : oe.data = .fields vs)
    (h : ∀ h' od tk, FD [("message", v)] od → h'.get? s.heap.objs.size = some od → h'.get? x = some { oe with dict := some s.heap.objs.size } → (∀ b o, b ≠ x → s.heap.get? b = some o → h'.get? b = some o) → Q () { s with heap := h', toks := tk }) :
    wpAny (model prog w) A (setAttr (.ref x) "message" v) Q E s := by
  have SF := PySem.F.store_Exception
  obtain ⟨hh, g, d, t, os⟩ := s
  dsimp only at X hx h
  have I : InstAt hh x oe 51 none := ⟨hx, hc, by unfold notCls; rw [hd'], by rw [hn]; trivial⟩
  refine set_plain X I (by k_is) ?_
  have sub : Looks (model prog w) hh (isInstance (.ref x) (.type "object")) true := I.type.andThen (looks_mroIn X (by k_is))
  refine codeAny_call_builtin SF.slot.plain SF.entry (@check_slot (model prog w) _ _ ⟨hh, g, d, t + 1, os⟩ "object.__setattr__" "object" "__setattr__" (.ref x) [.str "message" t, v] [] _ SF.kind SF.split sub (SF.args (.ref x) (.str "message" t) v) ?_)
  have ha : findIn (hd.heap_39 P) (.ref 51) "message" = some none := by k_is
  obtain ⟨cd, hcd, hcd'⟩ := has51 (M := model prog w) X
  rw [osa_eq, refuse_eq]
  refine wpAny_bind (wpAny_bind (I.type.here (wpAny_bind ((mro51 X).at ?_))))
  rw [refuseLoop_ref, refuseLoop_ref, SF.passes]
  refine wpAny_pure (wpAny_bind (I.type.here (wpAny_bind ((looks_findIn X ha).here (wpAny_bind (Looks.now.at ?_))))))
  obtain ⟨oc, odi, oda, osl⟩ := oe
  dsimp only at hc hn hd' hx
  subst hc hn hd'
  have hx1 : (hh.push emptyDict).get? x = some ⟨.ref 51, none, .fields vs, osl⟩ := Heap.get?_push_of_some _ hx
  have ne : x ≠ hh.objs.size := Nat.ne_of_lt (Heap.lt_size hx)
  refine wpAny_bind (wpAny_pure (wpAny_bind (wpAny_bind (wpAny_loadPart hx (wpAny_bind (hcd.at ?_))))))
  rw [hcd']
  refine wpAny_bind (wpAny_alloc' ?_)
  refine wpAny_bind (wpAny_update' hx1 ?_)
  refine wpAny_pure (a := some hh.objs.size) ?_
  have D : ((hh.push emptyDict).update x fun o => { o with dict := some hh.objs.size }).get? hh.objs.size = some (dictOf [] 0) := (Heap.get?_update_ne _ _ _ _ ne.symm).trans (Heap.get?_push_at rfl rfl)
  have hx2 : ((hh.push emptyDict).update x fun o => { o with dict := some hh.objs.size }).get? x = some ⟨.ref 51, some hh.objs.size, .fields vs, osl⟩ := Heap.get?_update_self _ hx1 rfl
  refine wpAny_bind (wpAny_pure (wpAny_bind ?_))
  unfold nsSet
  refine wpAny_bind (wpAny_bind (wpAny_askSetting (wpAny_pure (wpAny_bind (wpAny_mkText (wpAny_bind (wpAny_loadPart D ?_)))))))
  dsimp only
  rw [aRefKeyMayBeTheName_at]
  have c : (!(([] : List DictEntry).toArray).any (·.key.isStr "message") && (([] : List DictEntry).toArray).any (·.refKey)) = false := by simp
  rw [c]
  refine wpAny_updatePart D ?_
  have e : Obj.putName "message" (PyData.keyHash w.params "message") (.str "message" (t + 1)) v (dictOf [] 0) = dictOf (putL "message" (PyData.keyHash w.params "message") (.str "message" (t + 1)) v []) (putN "message" [] 0) := putName_dict ..
  have D' := Heap.get?_update_self (Obj.putName "message" (PyData.keyHash w.params "message") (.str "message" (t + 1)) v) D (by rw [e]; rfl)
  rw [e] at D'
  refine wpAny_bind (wpAny_lookBehind D' (pastItsLine_dict (by rw [List.size_toArray, sizeLine_eq]; exact Nat.le_trans (show _ ≤ 1 from Nat.le_refl _) (by decide))) ?_)
  refine wpAny_pure (h _ _ _ ⟨_, _, rfl, Flds.putL .nil _ _ _ _⟩ D' ?_ fun b o nb hb => ?_)
  · rw [Heap.get?_update_ne _ _ _ _ ne]; exact hx2
  · rw [Heap.get?_update_ne _ _ _ _ (Nat.ne_of_lt (Heap.lt_size hb)), Heap.get?_update_ne _ _ _ _ nb]
    exact Heap.get?_push_of_some _ hb
end
end
section
open PySem.Spec Builtin Builtin.ObjectAttr

theorem obj_pack {K : Frag} {C : Addr} {o : Obj} {R : Obj → Prop} (h : K.lookup C = some o) (p : R o) : ∃ o, K.lookup C = some o ∧ R o := ⟨o, h, p⟩
theorem in_get {K : Frag} {h : Heap} {C : Addr} {o : Obj} (X : K.In h) (e : K.lookup C = some o) : h.get? C = some o := X _ _ e
abbrev bmE : List Value := [.type "Exception", .type "BaseException", .type "object"]
abbrev excO (C t : Addr) : Obj := { cls := .ref C, data := .fields #[.ref t, .none, .none, .none, .bool false, .none] }
abbrev tupO (rest : List Value) : Obj := { cls := .type "tuple", data := .seq rest.toArray }
section
variable {P : Params} {h : Heap}
theorem cls51 (X : (hd.heap_39 P).In h) : ∃ nm q N bs hdct sn sub ab col dd k0 k1 k2 k3 k5, h.get? 51 = some (excClassObj nm q 51 N bs (.ref 31 :: bmE) hdct sn sub ab col dd k0 k1 k2 k3 k5 "Exception.__new__") := by
  have e : ∃ o, (hd.heap_39 P).lookup 51 = some o ∧ ∃ nm q N bs hdct sn sub ab col dd k0 k1 k2 k3 k5, o = excClassObj nm q 51 N bs (.ref 31 :: bmE) hdct sn sub ab col dd k0 k1 k2 k3 k5 "Exception.__new__" := by
    refine' obj_pack ?ho ?_
    case ho => k_is
    exact ⟨_, _, _, _, _, _, _, _, _, _, _, _, _, _, _, rfl⟩
  obtain ⟨o, ho, nm, q, N, bs, hdct, sn, sub, ab, col, dd, k0, k1, k2, k3, k5, rfl⟩ := e
  exact ⟨nm, q, N, bs, hdct, sn, sub, ab, col, dd, k0, k1, k2, k3, k5, X _ _ ho⟩
theorem tail51 (X : (hd.heap_39 P).In h) : OwnTail h bmE (.ref 31 :: bmE) := tail_of_in X (by kernel_rfl)
end
section
variable {prog : Program} {w : World} {A : Around} {R : Result → Shared → Prop} {P : Params} {h : Heap} {g : Array GenState} {d : Drawn} {t : Nat} {os : OsState}
theorem exc_make {rest : List Value} (hrest : rest.length ≤ sizeLine) (X : (hd.heap_39 P).In h)
    (hq : codeAny (model prog w) (A.under (.builtin "type.__call__" ⟨.ref 51 :: rest, []⟩)) (.call (.ref 48) ⟨.ref (h.objs.size + 1) :: rest, []⟩) (InitBack (h.objs.size + 1) R) ⟨(h.push (tupO rest)).push (excO 51 h.objs.size), g, d, t, os⟩) :
    codeAny (model prog w) A (.call (.ref 51) ⟨rest, []⟩) R ⟨h, g, d, t, os⟩ := by
  have T := tail51 X
  have FB := PySem.F.excBase_Exception
  obtain ⟨nm, q, N, bs, hdct, sn, sub, ab, col, dd, k0, k1, k2, k3, k5, hC⟩ := cls51 X
  have f1 := tc_lookup
  have f2 := tc_bind (.ref 51)
  have hT : (⟨h, g, d, t, os⟩ : Shared).TypeIs (.ref 51) "type" := ⟨_, hC, rfl⟩
  have X1 : (hd.heap_39 P).In ((h.push (tupO rest)).push (excO 51 h.objs.size)) := X.keeps fun b o e => Heap.get?_push_of_some _ (Heap.get?_push_of_some _ e)
  have hC1 : ((h.push (tupO rest)).push (excO 51 h.objs.size)).get? 51 = _ := Heap.get?_push_of_some _ (Heap.get?_push_of_some _ hC)
  have hget : ((h.push (tupO rest)).push (excO 51 h.objs.size)).get? (h.objs.size + 1) = some (excO 51 h.objs.size) := by heap_get
  have hi : findIn (hd.heap_39 P) (.ref 51) "__init__" = some (some (.ref 48)) := by k_is
  have hf : typeIn (hd.heap_39 P) (.ref 48) = some (.type "function") := by k_is
  have i1 := looks_findIn (M := model prog w) X1 hi
  have b1 := bind_fn (M := model prog w) X1 (.ref (h.objs.size + 1)) hf
  have t1 : Looks (model prog w) ((h.push (tupO rest)).push (excO 51 h.objs.size)) (typeOf (.ref (h.objs.size + 1))) (.ref 51) := (Looks.ld hget).andThen .now
  have s1 : Looks (model prog w) ((h.push (tupO rest)).push (excO 51 h.objs.size)) (isSubtype (.ref 51) (.ref 51)) true := looks_mroIn X1 (by k_is)
  refine codeAny_of_tree ?_
  show wpAny _ _ (callAny (.ref 51) _) _ _ _
  repeat (any_goals (first | assumption | with_reducible refine wpAny_loadPart_at hC ?_ | wp_step))
  refine ⟨rfl, ?_⟩
  refine codeAny_call_builtin_at (Code.quiet_builtin _ (by decide +kernel)) entry_typeCall (wpAny_check_type_call_sub hC ?_)
  repeat (first | with_reducible refine wpAny_loadPart_at hC ?_ | with_reducible refine wpAny_madeBy_exc hC ?_ | wp_step)
  refine codeAny_call_builtin_code (Code.quiet_builtin _ FB.quiet) (wpAny_check_new_subT FB T hC ?_)
  refine codeAny_exc_new_subT FB T hC ?_ hrest
  show wpAny _ _ _ _ _ ⟨(h.push (tupO rest)).push (excO 51 h.objs.size), g, d, t, os⟩
  unfold isInstance callSpecial? specialOf
  repeat (first | with_reducible refine wpAny_call ?_ | lk)
  refine codeAny_mono hq fun r s' z => ?_
  rcases r with e | (v | _ | _ | _) <;> first | exact z | exact z.elim | skip
  obtain ⟨rfl, z⟩ := z
  exact wpAny_pure (wpAny_pure z)
end
end
section
open PySem.Spec Builtin Builtin.ObjectAttr

section
variable {prog : Program} {w : World} {A : Around} {E : Value → Shared → Prop} {s : Shared} {P : Params}
/-- refusal.message -/
theorem get_msg {e : Addr} {oe od : Obj} {v : Value} {expr : Bool} {Q : Value → Shared → Prop} (X : (hd.heap_39 P).In s.heap) (I : InstAt s.heap e oe 51 (some od)) (f : FD [("message", v)] od) (hv : handedIn v = true) (h : Q v { s with toks := s.toks + 1 }) :
    wpAny (model prog w) A (getAttr (.ref e) "message" expr) Q E s := by
  obtain ⟨es, k, rfl, f⟩ := f
  obtain ⟨hh, g, d, t, os⟩ := s
  have FB := PySem.F.attrBase_Exception
  have f3 := FB.ga.bind (.ref e)
  have hx0 : (expr && onTheHeap (Value.builtin "BaseException.__getattribute__")) = false := by cases expr <;> rfl
  have hx2 : (Value.builtin "BaseException.__getattribute__" == Value.builtin "object.__getattribute__") = false := by decide +kernel
  have hx1 : (onTheHeap (Value.ref 51) && Value.builtin "BaseException.__getattribute__" == Value.builtin "object.__getattribute__") = false := by rw [hx2]; rfl
  have hga : findIn (hd.heap_39 P) (.ref 51) "__getattribute__" = some (some (.builtin "BaseException.__getattribute__")) := by k_is
  have hgt : findIn (hd.heap_39 P) (.ref 51) "__getattr__" = some none := by k_is
  have L0 := I.type (M := model prog w)
  have L1 := looks_findIn (M := model prog w) X hga
  have L2 := looks_findIn (M := model prog w) X hgt
  have sub : Looks (model prog w) hh (isInstance (.ref e) (.type "BaseException")) true := I.type.andThen (looks_mroIn X (by k_is))
  have L4 : Looks (model prog w) hh (find (.ref e) (.ref 51) "message") (.value v) :=
    looks_find X I (findObj_own (attr := none) (by k_is) (by k_is) (by k_is) (by rw [lookIn_dict, f.getL]; rfl))
  have hk : builtinKind "BaseException.__getattribute__" = some .slot := by decide +kernel
  have hsplit : splitId "BaseException.__getattribute__" = some ("BaseException", "__getattribute__") := by decide +kernel
  unfold getAttr
  refine wpAny_bind (wpAny_mkText ?_)
  unfold getAttrBy
  refine wpAny_holding (wpAny_bind (L0.at (wpAny_bind (L1.at ?_))))
  dsimp only
  rw [hx1]
  unfold getAttrByItsOwn hookBefore
  refine wpAny_bind (L2.at (wpAny_bind (wpAny_attempt (wpAny_holding ?_))))
  unfold callGetattribute
  rw [hx0]
  show wpAny _ _ (boundAndCalled _ _ _) _ _ _
  unfold boundAndCalled
  rw [f3]
  refine wpAny_bind (wpAny_pure ?_)
  refine wpAny_call (codeAny_call_builtin FB.ga.plain PySem.F.entry_bexc_ga (@check_slot (model prog w) _ _ ⟨hh, g, d, t + 1, os⟩ "BaseException.__getattribute__" "BaseException" "__getattribute__" (.ref e) [.str "message" t] [] _ hk hsplit sub (PySem.F.args_bexc_ga (.ref e) (.str "message" t)) ?_))
  unfold Builtin.«object.__getattribute__»
  repeat (first | simp only [handedOut_of hv] | lk)
  exact h
end
end
section
open PySem.Spec Builtin Builtin.ObjectAttr

abbrev excD (C t dx : Addr) : Obj := { cls := .ref C, dict := some dx, data := .fields #[.ref t, .none, .none, .none, .bool false, .none] }
section
variable {M : Model} {w : World} {A : Around} {E : Value → Shared → Prop} {s : Shared} {P : Params}
theorem raise_made {env : Env} {x : Sem Value} {Q : Flow → Shared → Prop} (hh : A.handled = none)
    (h : wpAny M A x (fun v s₁ => ∃ e t dx, v = .ref e ∧ (hd.heap_39 P).In s₁.heap ∧ s₁.heap.get? e = some (excD 51 t dx) ∧ E (.ref e) s₁) E s) : wpAny M A (raiseStmt env (some x) none) Q E s := by
  unfold raiseStmt
  refine wpAny_bind (wpAny_mono h (fun v s₁ h₁ => ?_) fun _ _ x => x)
  obtain ⟨e, t, dx, rfl, X, he, hE⟩ := h₁
  obtain ⟨nm, q, N, bs, hdct, sn, sub, ab, col, dd, k0, k1, k2, k3, k5, hC⟩ := cls51 X
  obtain ⟨hp, g, d, tk, os⟩ := s₁
  have hcB : (Value.ref 51 :: Value.ref 31 :: bmE).contains (.type "BaseException") = true := by decide +kernel
  repeat (first | with_reducible refine wpAny_loadPart_at he ?_ | with_reducible refine wpAny_loadPart_at hC ?_ | (with_reducible refine wpAny_isSubtype_exc hC ?_; rw [hcB]) | wp_step)
  exact wpAny_raiseNew_none hh hE
end
section
variable {X : Post Value} {a : Act} {m : Map} {M I : Led} {n : Nat} {Q : Post Value} {P : PostS} {w : World}
theorem X_raise (ok : a.Ok n) {x np e es cpos pos} (h : Ex a (eval (.Call (.Name x np) (e :: es) [] cpos) a.env) m M I (fun v M' I' => ∃ e t dx, v = .ref e ∧ (e, excD 51 t dx) ∈ M' ++ I' ∧ X v M' I') X) :
    Xs a (exec (.Raise (some (.Call (.Name x np) (e :: es) [] cpos)) none pos) a.env) m M I P X := by
  intro mf G R s hm S
  rw [arm_exec_Raise]
  refine wpAny_bind (wpAny_standAt ?_)
  refine raise_made (P := a.w.params) ok.hh ?_
  have key : wpAny (model PG a.w) a.A (eval (.Call (.Name x np) (e :: es) [] cpos) a.env) (fun v s₁ => ∃ e t dx, v = .ref e ∧ (hd.heap_39 a.w.params).In s₁.heap ∧ s₁.heap.get? e = some (excD 51 t dx) ∧ AfterX a R I s X (.ref e) s₁) (AfterX a R I s X) s := by
    refine wpAny_mono (h mf (G ++ R) s hm.more S) ?_ ?_
    · rintro v s' ⟨M', I', S', hI, hs, e, t, dx, rfl, hm', hX⟩
      exact ⟨e, t, dx, rfl, S'.keepK ok, S'.at hm', ⟨mf, G, M', I', S', hI, hs, hX⟩⟩
    · rintro v s' ⟨M', I', S', hI, hs, hX⟩
      exact ⟨mf, G, M', I', S', hI, hs, hX⟩
  exact wpAny_bind (wpAny_mono key (fun v s₃ h₃ => wpAny_bind (wpAny_standAt (wpAny_pure h₃))) fun _ _ x => x)
/-- self.message = v, on the ledger -/
theorem E_setmsg (ok : a.Ok n) {x t0 : Addr} {v : Value} {U : Post Unit} (h : ∀ dx od, FD [("message", v)] od → U () ((x, excD 51 t0 dx) :: (dx, od) :: M) I) : Ex a (setAttr (.ref x) "message" v) m ((x, excO 51 t0) :: M) I U X := by
  intro mf H s hm S
  have hx := S.memM (.head _)
  have nx := S.N (x, excO 51 t0) (List.mem_append_right _ (.head _))
  refine set_msg (P := a.w.params) rfl (S.keepK ok) hx rfl rfl rfl fun h' od tk f h1 h2 h3 => ?_
  have apart : ∀ q ∈ H ++ (M ++ I), q.1 ≠ x := nodup_head (G := H) (N := M ++ I) (p := (x, excO 51 t0)) S.D
  have keep : ∀ b ob, b ∉ [x] → s.heap.get? b = some ob → h'.get? b = some ob := fun b ob hb => h3 b ob (by simpa using hb)
  have F' := LCg.fr_but S.F keep (Ne.symm nx.2.1) nx.2.2
  have fr := S.fresh
  have new0 : a.h₀.get? s.heap.objs.size = none := by
    cases q : a.h₀.get? s.heap.objs.size with
    | none => rfl
    | some o => exact absurd (Heap.lt_size (S.F.keep _ _ q)) (Nat.lt_irrefl _)
  have neL : s.heap.objs.size ≠ a.L := by
    obtain ⟨oL, es, ep, hL, _⟩ := S.F.ns
    exact Nat.ne_of_gt (Heap.lt_size hL)
  refine ⟨_, I, ⟨F', fun q hq => ?_, ?_⟩, fun _ h => h, ⟨rfl, rfl, rfl⟩, h s.heap.objs.size od f⟩
  · have hq' : q = (x, excD 51 t0 s.heap.objs.size) ∨ q = (s.heap.objs.size, od) ∨ q ∈ H ++ (M ++ I) := by
      simp only [List.mem_append, List.mem_cons, List.cons_append] at hq ⊢
      rcases hq with h | h | h | h | h
      · exact .inr (.inr (.inl h))
      · exact .inl h
      · exact .inr (.inl h)
      · exact .inr (.inr (.inr (.inl h)))
      · exact .inr (.inr (.inr (.inr h)))
    rcases hq' with rfl | rfl | hq'
    · exact ⟨h2, nx.2⟩
    · exact ⟨h1, neL, new0⟩
    · have z := S.N q (by
        rcases List.mem_append.mp hq' with h | h
        · exact List.mem_append_left _ h
        · exact List.mem_append_right _ (.tail _ h))
      exact ⟨h3 _ _ (apart q hq') z.1, z.2⟩
  · refine nodup_perm (perm_M H ((s.heap.objs.size, od) :: M) I (x, excD 51 t0 s.heap.objs.size)) (nodup_cons (nodup_perm (perm_M H M I (s.heap.objs.size, od)) (nodup_cons ?_ ?_)) ?_)
    · have d := nodup_perm (perm_M H M I (x, excO 51 t0)).symm S.D
      rw [List.map_cons, List.nodup_cons] at d
      exact d.2
    · intro q hq e
      have := fr q (by
        rcases List.mem_append.mp hq with h | h
        · exact List.mem_append_left _ h
        · exact List.mem_append_right _ (.tail _ h))
      exact Nat.ne_of_lt this e
    · intro q hq
      have hq' : q = (s.heap.objs.size, od) ∨ q ∈ H ++ (M ++ I) := by
        simp only [List.mem_append, List.mem_cons, List.cons_append] at hq ⊢
        rcases hq with h | h | h | h
        · exact .inr (.inl h)
        · exact .inl h
        · exact .inr (.inr (.inl h))
        · exact .inr (.inr (.inr h))
      rcases hq' with rfl | hq'
      · exact Nat.ne_of_gt (Heap.lt_size hx)
      · exact apart q hq'
end
end
section
open PySem.Spec

section
variable {X : Post Value} {a : Act} {m : Map} {M I : Led} {n : Nat} {Q : Post Value}
/-- the text's __init__ of a refusal -/
theorem c_init48 (ok : a.Ok (n + 1)) {x t0 : Addr} {msg : Str} {t : Tok} (q : ∀ dx od, MsgO msg od → Q .none ((x, excD 51 t0 dx) :: (dx, od) :: M) I) : Cx a (.call (.ref 48) ⟨[.ref x, .str msg t], []⟩) m ((x, excO 51 t0) :: M) I Q X := by
  refine' Cx_call (binds := [("self", .ref x), ("message", .str msg t)]) ok ?ho ?hcd ?hb ?hk ?hnd ?hco ?hgen ?hkk ?_
  ktr_room
  intro b okb hwb fm
  kst_mem
  refine E_setmsg okb fun dx od f => ?_
  kst_mem
  exact q dx od ⟨t, f⟩
theorem Ex_refusal (ok : a.Ok (n + 2)) {msg : Str} {t : Tok} (q : ∀ e t0 dx od, MsgO msg od → Q (.ref e) ((e, excD 51 t0 dx) :: (dx, od) :: (t0, tupO [.str msg t]) :: M) I) : Ex a (call (.ref 51) [.str msg t]) m M I Q X := by
  intro mf H s hm' S
  obtain ⟨hh, g, d, tk, os⟩ := s
  refine wpAny_call (exc_make (P := a.w.params) (rest := [.str msg t]) (Nat.le_trans (show 1 ≤ 1000 by decide) (by decide)) (S.keepK ok) ?_)
  have ok' : (a.under (a.A.under (.builtin "type.__call__" ⟨.ref 51 :: [.str msg t], []⟩))).Ok (n + 1) := {
    X := ok.X
    T := ok.T
    XB := ok.XB
    TB := ok.TB
    B := ok.B
    hA := ok.hA
    hf := ok.hf
    hk := ok.hk
    hh := ok.hh
    hd := by show a.A.depth + 1 + 2 * (n + 1) ≤ 900; have := ok.hd; omega
    hu := by show a.A.units + 1 + 8 * (n + 1) ≤ 9000; have := ok.hu; omega
    ek := ok.ek
    eg := ok.eg
    eb := ok.eb }
  have S1 : Sit a mf H ((hh.objs.size, tupO [.str msg t]) :: M) I ⟨hh.push (tupO [.str msg t]), g, d, tk, os⟩ := S.addM (S.F.push _) (S.N.push S.F _) S.fresh
  have S2 : Sit a mf H ((hh.objs.size + 1, excO 51 hh.objs.size) :: (hh.objs.size, tupO [.str msg t]) :: M) I ⟨(hh.push (tupO [.str msg t])).push (excO 51 hh.objs.size), g, d, tk, os⟩ := by
    have z := S1.addM (S1.F.push (excO 51 hh.objs.size)) (S1.N.push S1.F (excO 51 hh.objs.size)) S1.fresh (s' := ⟨(hh.push (tupO [.str msg t])).push (excO 51 hh.objs.size), g, d, tk, os⟩)
    rwa [show (Shared.heap ⟨hh.push (tupO [.str msg t]), g, d, tk, os⟩).objs.size = hh.objs.size + 1 from Heap.size_push ..] at z
  refine codeAny_mono (c_init48 (Q := fun v M' I' => v = .none ∧ ∃ dx od, MsgO msg od ∧ M' = (hh.objs.size + 1, excD 51 hh.objs.size dx) :: (dx, od) :: (hh.objs.size, tupO [.str msg t]) :: M ∧ I' = I) (X := X) ok' (fun dx od ho => ⟨rfl, dx, od, ho, rfl, rfl⟩) mf H _ ⟨hm'.loc, hm'.cell⟩ S2.to) ?_
  intro r s' k
  cases r with
  | error e => obtain ⟨M', I', S, r1, r2, r3⟩ := k; exact ⟨M', I', S.from, r1, r2, r3⟩
  | ok f =>
    cases f with
    | ret v =>
      obtain ⟨M', I', S', hI, hs, e, dx, od, ho, rfl, rfl⟩ := k
      exact ⟨e, _, _, S'.from, hI, hs, q _ _ _ _ ho⟩
    | _ => exact k
end
end
section
open PySem.Spec

theorem flightG {M : Model} {A : Around} {E : Value → Shared → Prop} {s : Shared} {B : Heap} {l : List Env} {e : Addr} {cls : Value} {dx : Option Addr} {fl : Value} {fr : Option Addr} {Q : Unit → Shared → Prop} (I : InF B l e cls dx fl s.heap)
    (h : ∀ h', InF B l e cls dx (fr.elim .none fun f => rawInt f) h' → s.heap.UpToSlots h' → Q () { s with heap := h' }) : wpAny M A (setFlight (.ref e) fr) Q E s := by
  obtain ⟨st, en, ff, oe, vs, T, oT, ts, he, hc, hx, hd, h1, hn, ne, hT, hdT, h3⟩ := I
  unfold setFlight
  refine wpAny_bind (wpAny_field he hd h1 ?_)
  rw [if_pos (show (Value.ref T != Value.none) = true from by simp)]
  have hz := (Array.getElem?_eq_some_iff.mp h3).1
  have mv := mv_upd st hn hT hdT (Obj.mapFields (·.setIfInBounds 3 (fr.elim Value.none fun f => rawInt f)))
  refine wpAny_setField hT hdT hz (h _ ⟨mv.st, en, mv.ff ff, oe, vs, T, _, _, ?_, hc, hx, hd, h1, hn, ne, upd_at_f hT hdT _, Obj.data_mapFields hdT _, by simp [hz]⟩ mv.up)
  rw [Heap.get?_update_other _ _ ne]; exact he

/-- a refusal noted in the act's own frame -/
noncomputable def Held (b : Act) (K : Led) (msg : Str) (s : Shared) (ev : Value) (s' : Shared) : Prop :=
  Same s s' ∧ ∃ e dx od news B, ev = .ref e ∧ MsgO msg od ∧ K ⊆ news ∧ (dx, od) ∈ news ∧ b.base.StaysIn B ∧ (∀ x o, b.h₀.get? x = some o → x ∉ b.outer.filterMap (·.frame) → B.get? x = some o) ∧
    (∀ q ∈ news, B.get? q.1 = some q.2 ∧ b.h₀.get? q.1 = none ∧ b.base.get? q.1 = none) ∧ InF B (b.fenv :: b.outer) e (.ref 51) (some dx) (rawInt b.L) s'.heap ∧ b.h₀.UpToSlots s'.heap
theorem Held.mono {b : Act} {K K' : Led} {msg : Str} {s s₁ : Shared} {ev : Value} {s' : Shared} (h : Held b K msg s₁ ev s') (hs : Same s s₁) (hK : K' ⊆ K) : Held b K' msg s ev s' := by
  obtain ⟨h1, e, dx, od, news, B, h2, h3, h4, h5⟩ := h
  exact ⟨hs.trans h1, e, dx, od, news, B, h2, h3, hK.trans h4, h5⟩
noncomputable def Rh (a : Act) (t : Sem Flow) (m : Map) (M I K : Led) (msg : Str) : Prop :=
  ∀ mf G R s, Holds a mf G m → Sit a mf (G ++ R) M I s → wpAny (model PG a.w) a.A t (fun _ _ => False) (Held a (R ++ K) msg s) s

section
variable {α β : Type} {a : Act} {m : Map} {M I K : Led} {msg : Str} {n : Nat}
theorem Rh.freeze {t : Sem Flow} {p : Addr × Obj} (h : Rh a t m M (p :: I) K msg) : Rh a t m (p :: M) I K msg := fun mf G R s hm S => h mf G R s hm S.freeze
theorem Rh.next {fenv : Env} {st : Stmt} {rest : List Stmt} (h : Xs a (exec st fenv) m M I (fun fl m' M' I' => match fl with | .next => I ⊆ I' → Rh a (execs rest fenv) m' M' I' K msg | _ => False) noX) : Rh a (execs (st :: rest) fenv) m M I K msg := by
  intro mf G R s hm S
  refine wpAny_execs_cons (wpAny_mono (h mf G R s hm S) ?_ ?_)
  · rintro fl s' ⟨mf', G', m', M', I', hm', S', hI, hs, k⟩
    cases fl with
    | next => exact wpAny_mono (k hI mf' G' R s' hm' S') (fun _ _ h => h) fun _ _ h => h.mono hs (fun _ h => h)
    | _ => exact k.elim
  · rintro v s' ⟨_, _, M', I', S', hI, hs, k⟩
    exact k.elim
theorem Rh.last {fenv : Env} {st : Stmt} {rest : List Stmt} (h : Rh a (exec st fenv) m M I K msg) : Rh a (execs (st :: rest) fenv) m M I K msg := by
  intro mf G R s hm S
  exact wpAny_execs_cons (wpAny_mono (h mf G R s hm S) (fun _ _ h => h.elim) fun _ _ h => h)

/-- an exception of the act's own is noted in its frame -/
theorem note1 {M' : Model} {b : Act} (ok : b.Ok n) {mf : Map} {H Ms : Led} {s' : Shared} {e : Addr} {oe : Obj} {dx : Addr} {vs : Array Value} {E : Value → Shared → Prop} {Q : Unit → Shared → Prop} (S : Sit b mf H ((e, oe) :: Ms) I s')
    (hc : oe.cls = .ref 51) (hx : oe.dict = some dx) (hd' : oe.data = .fields vs) (h1 : vs[1]? = some .none)
    (hQ : ∀ h' B, b.base.StaysIn B → (∀ x o, b.h₀.get? x = some o → x ∉ b.outer.filterMap (·.frame) → B.get? x = some o) → (∀ q ∈ H ++ (Ms ++ I), B.get? q.1 = some q.2 ∧ b.h₀.get? q.1 = none ∧ b.base.get? q.1 = none) →
      InF B (b.fenv :: b.outer) e (.ref 51) (some dx) (rawInt b.L) h' → b.h₀.UpToSlots h' → Q () { s' with heap := h' }) : wpAny M' b.A (noteFrame (.ref e) b.fenv) Q E s' := by
  have hm : (e, oe) ∈ H ++ ((e, oe) :: Ms ++ I) := List.mem_append_right _ (.head _)
  have hE := S.N _ hm
  have apart : ∀ q ∈ H ++ (Ms ++ I), q.1 ≠ e := nodup_head (G := H) (N := Ms ++ I) (p := (e, oe)) S.D
  have nL : b.h₀.get? b.L = none := kts_self S.F
  have hF : ∀ x, x ∈ (b.fenv :: b.outer).filterMap (·.frame) → x = b.L ∨ x ∈ b.outer.filterMap (·.frame) := fun x hx => mem_frames ok.hf hx
  have ff0 : s'.heap.FunFrames b.base (b.fenv :: b.outer) :=
    Heap.FunFrames.cons (by rw [ok.hk]; decide) ok.hf S.F.ns (fresh_of_stays ok.B.stays nL) (ok.B.frames.of_keeps fun x o ho _ => ⟨o, S.F.keep _ _ ho, rfl⟩)
  have sub : ∀ x, x ∈ (b.fenv :: b.outer).filterMap (·.frame) → x ∈ e :: (b.fenv :: b.outer).filterMap (·.frame) := fun x h => .tail _ h
  have en : (hideAll s'.heap (e :: (b.fenv :: b.outer).filterMap (·.frame))).get? e = none := hideAll_none _ (.head _)
  have g1 : ∀ x o, b.h₀.get? x = some o → x ∉ b.outer.filterMap (·.frame) → (hideAll s'.heap (e :: (b.fenv :: b.outer).filterMap (·.frame))).get? x = some o := fun x o ho hn => hideAll_get _ (S.F.keep _ _ ho) fun hm' => by
    rcases List.mem_cons.mp hm' with rfl | hm'
    · rw [hE.2.2] at ho; cases ho
    · rcases hF x hm' with rfl | hm'
      · rw [nL] at ho; cases ho
      · exact hn hm'
  refine note0D ok.hA (ff_hide ff0 sub) ok.hf hE.1 (fun x o ho => of_hideAll _ ho) en hd' h1 fun h₁ i1 u1 => ?_
  rw [hc, hx] at i1
  refine hQ h₁ _ (fun x o ho => g1 x o (ok.B.stays _ _ ho) fun hm' => ?_) g1 (fun q hq => ?_) i1 ((Heap.UpToSlots.of_keeps S.F.keep).trans u1)
  · rw [(ok.B.frames.mem hm').1] at ho; cases ho
  · have hq' := S.N q (by
      rcases List.mem_append.mp hq with h | h
      · exact List.mem_append_left _ h
      · exact List.mem_append_right _ (.tail _ h))
    refine ⟨hideAll_get _ hq'.1 fun hm' => ?_, hq'.2.2, fresh_of_stays ok.B.stays hq'.2.2⟩
    rcases List.mem_cons.mp hm' with h | hm'
    · exact apart q hq h
    · rcases hF _ hm' with h | hm'
      · exact hq'.2.1 h
      · obtain ⟨_, o, ho, _⟩ := ok.B.frames.mem hm'
        rw [hq'.2.2] at ho; cases ho
/-- a noted exception leaves the frame -/
theorem leave3 {M' : Model} {b : Act} (ok : b.Ok n) {s' : Shared} {e dx : Addr} {news : Led} {B : Heap} {E : Value → Shared → Prop} {Q : Unit → Shared → Prop} (r1 : b.base.StaysIn B) (r2 : ∀ x o, b.h₀.get? x = some o → x ∉ b.outer.filterMap (·.frame) → B.get? x = some o)
    (r3 : ∀ q ∈ news, B.get? q.1 = some q.2 ∧ b.h₀.get? q.1 = none ∧ b.base.get? q.1 = none) (r4 : InF B (b.fenv :: b.outer) e (.ref 51) (some dx) (rawInt b.L) s'.heap) (u : b.h₀.UpToSlots s'.heap)
    (hQ : ∀ h', Rz b.base b.h₀ b.outer e (.ref 51) (some dx) news h' → b.h₀.UpToSlots h' → Q () { s' with heap := h' }) : wpAny M' b.A (leaving b.fenv (.ref e)) Q E s' := by
  unfold leaving
  have again : ∀ {Q' : Unit → Shared → Prop} {E' : Value → Shared → Prop}, Q' () s' → wpAny M' b.A (noteFrame (.ref e) b.fenv) Q' E' s' := by
    intro Q' E' q
    obtain ⟨_, _, _, oe, vs, T, oT, ts, he, _, _, hd, h1, _, _, hT, hdT, h3⟩ := r4
    unfold noteFrame
    simp only [ok.hf]
    refine wpAny_bind (wpAny_field he hd h1 ?_)
    rw [if_pos (show (Value.ref T != Value.none) = true from by simp)]
    refine wpAny_bind (wpAny_field hT hdT h3 ?_)
    rw [if_pos (show (rawInt b.L == rawInt b.L) = true from by simp)]
    exact wpAny_pure q
  refine wpAny_bind (again ?_)
  refine flightG r4 fun h₂ i2 u2 => ?_
  refine hQ h₂ ⟨B, r1, r2, r3, i2.st, i2.en, ?_, i2.tr⟩ (u.trans u2)
  obtain ⟨_, _, x⟩ := i2.ff
  exact x
/-- the loop's own activation hands the exception on -/
theorem came_back {M' : Model} {b : Act} (ok : b.Ok n) {K : Led} {s s' : Shared} {ev : Value} (h : Held b K msg s ev s') : cameBackBy M' b.A b.fenv (Held b K msg s) ev s' := by
  obtain ⟨hs, e, dx, od, news, B, rfl, h3, h4, h5, r1, r2, r3, r4, u⟩ := h
  have r4' := r4
  obtain ⟨_, _, _, oe, vs, T, oT, ts, he, _, _, hd, h1, _⟩ := r4'
  unfold cameBackBy
  refine wpAny_bind (wpAny_field he hd h1 ?_)
  rw [if_neg (show ¬ ((Value.ref T == Value.none) = true) from by simp)]
  rw [ok.hf]
  refine flightG r4 fun h₂ i2 u2 => ?_
  exact ⟨hs.trans ⟨rfl, rfl, rfl⟩, e, dx, od, news, B, rfl, h3, h4, h5, r1, r2, r3, i2, u.trans u2⟩

theorem loop_r (ok : a.Ok n) {scope : Scope} (fm : Fm a scope) {x : Str} {xp : Pos} {body : List Stmt} {it : Addr} {k : Nat} {Pv : Nat → Value → Prop} {St : Nat → Heap → Prop} {fp : List Addr}
    (W : Walks PG a.w a.A it fp [it] k Pv St) (hIo : ∀ i h, St i h → ∃ o, h.get? it = some o) (hfp : ∀ b ∈ fp, b = it ∨ ∃ o, (b, o) ∈ I) (hx : a.env.kindOf x = some .local) (J : Nat → Map → Led → Led → Prop)
    (turn : ∀ i v m₁ M₁ I₁, i < k → Pv i v → I ⊆ I₁ → J i m₁ M₁ I₁ → Xs a (execs body a.env) (upd m₁ x v) M₁ I₁ (Turn (fun _ _ _ _ => False) (J (i + 1))) (Xr K msg))
    (done : ∀ m₁ M₁ I₁, I ⊆ I₁ → J k m₁ M₁ I₁ → False) {mf : Map} {G R : Led} {s₀ s : Shared} {o : Obj} (hs0 : Same s₀ s) (hm : Holds a mf G m) (S : Sit a mf (G ++ (it, o) :: R) M I s) (h0 : J 0 m M I) (hst : St 0 s.heap) :
    codeAny (model PG a.w) a.A (.forLoop (.Name x xp) (.ref it) body [] a.env) (fun r s' => match r with | .ok _ => False | .error e => cameBackBy (model PG a.w) a.A a.env (Held a (R ++ K) msg s₀) e s') s := by
  refine codeAny_forLoop
    (fun q s' => ∃ i mf' G' m' M' I' o', i ≤ k ∧ q = k + 1 - i ∧ St i s'.heap ∧ Holds a mf' G' m' ∧ Sit a mf' (G' ++ (it, o') :: R) M' I' s' ∧ I ⊆ I' ∧ Same s s' ∧ J i m' M' I') ?_ (k + 1)
    ⟨0, mf, G, m, M, I, o, Nat.zero_le _, rfl, hst, hm, S, fun _ h => h, .rfl', h0⟩
  rintro q s' ⟨i, mf', G', m', M', I', o', hi, rfl, hst', hm', S', hI, hs, hJ⟩
  by_cases hlt : i < k
  · refine W.item i _ _ _ hlt hst' fun v h₁ tk₁ hP hst₁ hk₁ => ?_
    obtain ⟨o₁, ho₁⟩ := hIo _ _ hst₁
    have S₁ : Sit a mf' (G' ++ (it, o₁) :: R) M' I' { s' with heap := h₁, toks := tk₁ } := S'.moved hk₁ ho₁
    have hfp' : ∀ b ∈ fp, b = it ∨ ∃ o, (b, o) ∈ I' := fun b hb => (hfp b hb).imp id fun ⟨o, h⟩ => ⟨o, hI h⟩
    refine wpAny_assign_Name (store_local ok fm hm' S₁ hx fun mf2 G2 s2 hm2 S2 hs2 => ?_)
    have hst₂ : St (i + 1) s2.heap := W.frame _ _ _ hst₁ (fp_keep hfp' S₁ S2 fun _ h => h)
    have hss : Same s s2 := hs.trans (Same.trans (s' := { s' with heap := h₁, toks := tk₁ }) ⟨rfl, rfl, rfl⟩ hs2)
    refine wpAny_mono (turn i v m' M' I' hlt hP hI hJ mf2 G2 ((it, o₁) :: R) s2 hm2 S2) ?_ ?_
    · rintro fl s3 ⟨mf3, G3, m3, M3, I3, hm3, S3, hI3, hs3, k3⟩
      have hst₃ : St (i + 1) s3.heap := W.frame _ _ _ hst₂ (fp_keep hfp' S2 S3 hI3)
      have fin : J (i + 1) m3 M3 I3 → ∃ r, r < k + 1 - i ∧ ∃ i mf' G' m' M' I' o', i ≤ k ∧ r = k + 1 - i ∧ St i s3.heap ∧ Holds a mf' G' m' ∧ Sit a mf' (G' ++ (it, o') :: R) M' I' s3 ∧ I ⊆ I' ∧ Same s s3 ∧ J i m' M' I' := fun j =>
        ⟨k + 1 - (i + 1), by omega, i + 1, mf3, G3, m3, M3, I3, o₁, hlt, rfl, hst₃, hm3, S3, hI.trans hI3, hss.trans hs3, j⟩
      cases fl with
      | next => exact fin k3
      | cont => exact fin k3
      | brk => exact k3.elim
      | ret v => exact k3.elim
    · rintro ev s3 ⟨mf3, G3, M3, I3, S3, hI3, hs3, e, oe, dx, od, vs, M'', rfl, rfl, hc, hxd, hdd, h1, hmsg, hod, hK⟩
      show wpAny _ _ (noteFrame _ _) _ _ _
      rw [← fm.fe]
      refine note1 ok S3 hc hxd hdd h1 fun h₂ B r1 r2 r3 r4 u => ?_
      refine came_back ok ⟨(hs0.trans hss).trans (hs3.trans ⟨rfl, rfl, rfl⟩), e, dx, od, _, B, rfl, hmsg, fun q hq => ?_, List.mem_append_right _ hod, r1, r2, r3, r4, u⟩
      rcases List.mem_append.mp hq with h | h
      · exact List.mem_append_left _ (List.mem_append_right _ (.tail _ h))
      · exact List.mem_append_right _ (hK h)
  · have hin : i = k := by omega
    subst hin
    exact (done _ _ _ hI hJ).elim
theorem Rh_for_range (ok : a.Ok n) {scope : Scope} (fm : Fm a scope) {x : Str} {xp : Pos} {iter : Expr} {body : List Stmt} {pos : Pos} (hx : a.env.kindOf x = some .local) (hfs : ∀ x, foldedSetIterable iter a.env x = pure x)
    (h : Ex a (eval iter a.env) m M I (fun v M' I' => ∃ r k t₁ t₂ t₃, v = .ref r ∧ (r, ({ cls := .type "range", data := .fields #[.int 0 t₁, .int (k : Nat) t₂, .int 1 t₃] } : Obj)) ∈ I' ∧ k ≤ 2 ^ 24 ∧ ∃ J : Nat → Map → Led → Led → Prop, J 0 m M' I' ∧
      (∀ i t m₁ M₁ I₁, i < k → I' ⊆ I₁ → J i m₁ M₁ I₁ → Xs a (execs body a.env) (upd m₁ x (.int i t)) M₁ I₁ (Turn (fun _ _ _ _ => False) (J (i + 1))) (Xr K msg)) ∧
      (∀ m₁ M₁ I₁, I' ⊆ I₁ → J k m₁ M₁ I₁ → False)) noX) : Rh a (exec (.For (.Name x xp) iter body [] pos) a.env) m M I K msg := by
  intro mf G R s hm S
  refine wpAny_For (wpAny_mono (h mf (G ++ R) s hm.more S) ?_ ?_) hfs
  · rintro v s1 ⟨M1, I1, S1, hI1, hs1, r, k, t₁, t₂, t₃, rfl, hr, hk, J, j0, turn, done⟩
    have hR : IsRange s1.heap r 0 (k : Int) 1 t₁ t₂ t₃ := S1.memI hr
    obtain ⟨f1, f2⟩ := range_fits hk
    refine wpAny_pyIter_range hR f1 ?_
    rw [f2]
    have S2 := S1.push (o := { cls := .type "range_iterator", data := .fields #[rawInt 0, rawInt (k : Int), rawInt 1] }) rfl (s' := { s1 with heap := s1.heap.push { cls := .type "range_iterator", data := .fields #[rawInt 0, rawInt (k : Int), rawInt 1] } }) rfl
    have hs2 : Same s { s1 with heap := s1.heap.push { cls := .type "range_iterator", data := .fields #[rawInt 0, rawInt (k : Int), rawInt 1] } } := hs1.trans ⟨rfl, rfl, rfl⟩
    refine codeAny_mono (loop_r (K := K) (msg := msg) ok fm (Walks.range ok.hh s1.heap.objs.size 0 1 k) (fun i h st => ⟨_, st⟩) (fun b hb => .inl (List.mem_singleton.mp hb)) hx J ?_ done hs2 hm S2 j0 ?_) ?_
    · rintro i v m₁ M₁ I₁ hik ⟨t, rfl⟩ hI' hj
      have := turn i t m₁ M₁ I₁ hik hI' hj
      simpa using this
    · show Heap.get? _ _ = _
      simpa using Heap.get?_push_size _ rfl
    · intro r s' k
      cases r with
      | ok f => exact k.elim
      | error e => exact k
  · rintro v s' ⟨M', I', S', hI, hs, k⟩
    exact k.elim

/-- a call whose body raises: straight, in a loop, or in a call of its own -/
theorem Rx_callH (ok : a.Ok (n + 1)) {name qual : Str} {params : Arguments} {body : List Stmt} {scope : Scope} {dV kV doc pm cdv ct oc : Value} {an od : Option Addr} {osl : Array (Option Value)} {f : Addr} {args : List Value} {binds : List (Str × Value)}
    (ho : (hd.heap_39 a.w.params).lookup f = some ⟨oc, od, .func (fnOf name qual params body scope dV kV doc pm an cdv ct), osl⟩) (hcd : codeIn (hd.heap_39 a.w.params) cdv qual = true)
    (hbind : ∀ s : Shared, (hd.heap_39 a.w.params).In s.heap → BindsTo s (fnOf name qual params body scope dV kV doc pm an cdv ct) ⟨args, []⟩ binds)
    (hkind : (binds.all fun y => scope.names.lookup y.1 == some .local || scope.names.lookup y.1 == some .cell) = true) (hnd : ((cellsFrom 0 scope.names []).map (·.1)).Nodup)
    (hco : scope.isCoroutine = false) (hgen : scope.isGenerator = false) (hk : scope.kind = .function)
    (h : ∀ b : Act, b.Ok n → b.w = a.w → Fm b scope → Rh b (execs body b.env) (bindM binds fun _ => none) M I K msg) : Rx a (call (.ref f) args) m M I K msg := by
  refine Rx_enter ok ho hcd hbind hkind hnd hco hgen hk fun b okb hwb fm hba hou mf mfb cells H s s₁ hs FG hb Sb => ?_
  refine wpAny_mono (h b okb hwb fm mfb cells H s₁ hb Sb) (fun _ _ h => h) ?_
  rintro ev s' ⟨hs', e, dx, od, news, B, rfl, h3, h4, h5, r1, r2, r3, r4, u⟩
  refine leave3 okb r1 r2 r3 r4 u fun h₂ R2 u2 => ?_
  rw [hba, hou] at R2
  exact ⟨hs.trans (hs'.trans ⟨rfl, rfl, rfl⟩), e, dx, od, b.h₀, mf, news, rfl, h3, FG, u2, h4, h5, R2⟩
theorem Rx_callS (ok : a.Ok (n + 1)) {name qual : Str} {params : Arguments} {body : List Stmt} {scope : Scope} {dV kV doc pm cdv ct oc : Value} {an od : Option Addr} {osl : Array (Option Value)} {f : Addr} {args : List Value} {binds : List (Str × Value)}
    (ho : (hd.heap_39 a.w.params).lookup f = some ⟨oc, od, .func (fnOf name qual params body scope dV kV doc pm an cdv ct), osl⟩) (hcd : codeIn (hd.heap_39 a.w.params) cdv qual = true)
    (hbind : ∀ s : Shared, (hd.heap_39 a.w.params).In s.heap → BindsTo s (fnOf name qual params body scope dV kV doc pm an cdv ct) ⟨args, []⟩ binds)
    (hkind : (binds.all fun y => scope.names.lookup y.1 == some .local || scope.names.lookup y.1 == some .cell) = true) (hnd : ((cellsFrom 0 scope.names []).map (·.1)).Nodup)
    (hco : scope.isCoroutine = false) (hgen : scope.isGenerator = false) (hk : scope.kind = .function)
    (h : ∀ b : Act, b.Ok n → b.w = a.w → Fm b scope → Rs b (execs body b.env) (bindM binds fun _ => none) M I K msg) : Rx a (call (.ref f) args) m M I K msg := by
  refine Rx_enter ok ho hcd hbind hkind hnd hco hgen hk fun b okb hwb fm hba hou mf mfb cells H s s₁ hs FG hb Sb => ?_
  refine wpAny_mono (h b okb hwb fm mfb cells H s₁ hb Sb) (fun _ _ h => h) ?_
  rintro ev s' ⟨hs', e, dx, od, g, mf2, news, rfl, h3, h4, h5, h6, h7, R⟩
  refine leave2 okb h4 h5 R fun h₂ R2 u2 => ?_
  rw [hba, hou] at R2
  exact ⟨hs.trans (hs'.trans ⟨rfl, rfl, rfl⟩), e, dx, od, b.h₀, mf, news, rfl, h3, FG, u2, h6, h7, R2⟩
end
end
section
open PySem.Spec

noncomputable def theMsg : Str := "number of columns of matrices must match (see arg 3)"
theorem msg_is : ((((Str.empty ++ ("number of " : Str)) ++ ("columns" : Str)) ++ (" of matrices must match (see arg " : Str)) ++ Str.ofString (toString (((2 : Nat) : Int) + 1))) ++ (")" : Str) = theMsg := by decide +kernel
theorem msg_len : theMsg.length ≤ 1000 := by decide +kernel

section
variable {X : Post Value} {a : Act} {m : Map} {M I : Led} {Q : Post Value} {n : Nat}
noncomputable def Ej (a : Act) (out : Str) (es : List Expr) (m : Map) (M I : Led) (Q : Post Value) (X : Post Value) : Prop := Ex a (joinParts out (evalEach es a.env)) m M I Q X
theorem Ej.nil {out : Str} (hz : out.length ≤ 1000) (h : ∀ t, Q (.str out t) M I) : Ej a out [] m M I Q X := by
  intro mf H s hm S
  exact joinParts_nil (S.here (h _)) (Nat.le_trans hz (by decide))
theorem Ej.cons {out : Str} {e : Expr} {es : List Expr} (h : Ex a (eval e a.env) m M I (fun v M' I' => ∃ y t, v = .str y t ∧ (out ++ y).length ≤ 1000 ∧ (I ⊆ I' → Ej a (out ++ y) es m M' I' Q X)) X) : Ej a out (e :: es) m M I Q X := by
  intro mf H s hm S
  refine joinParts_consE (joinParts_cons (wpAny_mono (h mf H s hm S) ?_ fun _ _ h => h))
  rintro v s' ⟨M', I', S', hI, hs, y, t, rfl, hz, k⟩
  refine ⟨Nat.le_trans hz (by decide), ?_⟩
  exact wpAny_mono (k hI mf H s' hm S') (fun v s3 h => h.trans hI hs fun _ _ _ h => h) fun v s3 h => h.trans hI hs fun _ _ _ h => h
theorem E_joined {v₁ v₂ : Expr} {rest : List Expr} {pos : Pos} (h : Ej a Str.empty (v₁ :: v₂ :: rest) m M I Q X) : Ex a (eval (.JoinedStr (v₁ :: v₂ :: rest) pos) a.env) m M I Q X := by
  intro mf H s hm S
  exact JoinedStr_many (h mf H s hm S)
theorem E_fmt {value : Expr} {pos : Pos} (h : Ex a (eval value a.env) m M I (fun v M' I' => I ⊆ I' → Ex a (formatField v Str.empty) m M' I' Q X) X) : Ex a (eval (.FormattedValue value (-1) none pos) a.env) m M I Q X := by
  intro mf H s hm S
  refine FormattedValue_plain (wpAny_mono (h mf H s hm S) ?_ fun _ _ h => h)
  rintro v s' ⟨M', I', S', hI, hs, k⟩
  exact wpAny_mono (k hI mf H s' hm S') (fun v s3 h => h.trans hI hs fun _ _ _ h => h) fun v s3 h => h.trans hI hs fun _ _ _ h => h
theorem fmt_s {x : Str} {t : Tok} (hz : x.length ≤ 1000) (h : ∀ t', Q (.str x t') M I) : Ex a (formatField (.str x t) Str.empty) m M I Q X := by
  intro mf H s hm S
  exact formatField_str (fun t' tk => S.here (h _)) (Nat.le_trans hz (by decide))
theorem fmt_i {k : Int} {t : Tok} (hk : k.natAbs.log2 < 1920) (h : ∀ t', Q (.str (Str.ofString (toString k)) t') M I) : Ex a (formatField (.int k t) Str.empty) m M I Q X := by
  intro mf H s hm S
  exact formatField_int_small hk (S.here (h _))

theorem r_bound_extent {w : World} (ok : a.Ok 6) (hw : a.w = w) {pv v0 v1 v2 : Value} {A0 A2 : Mt} {tw : Tok} {I₀ K : Led} (hp : LiI I₀ pv [v0, v1, v2]) (h0 : MatI w I₀ v0 A0) (h1 : NulI I₀ v1) (h2 : MatI w I₀ v2 A2) (hne : A0.n ≠ A2.n)
    (hK : K ⊆ M ++ I) (s₀ : I₀ ⊆ I := by kqd_sub) : Rx a (call (.ref 548) [pv, .str "columns" tw]) m M I K theMsg := by
  refine' Rx_callH (binds := [("parts", pv), ("word", .str "columns" tw)]) ok ?ho ?hcd ?hb ?hk ?hnd ?hco ?hgen ?hkk ?_
  ktr_room
  intro b okb hwb fm
  dsimp only [bindM, List.foldl_cons, List.foldl_nil]
  refine Rh.next ?_
  kst_mem
  refine neg_i fun t1 => ?_
  kst_mem
  refine Rh.next ?_
  kst_mem
  refine Rh.last ?_
  with_reducible refine' Rh_for_range okb fm ?f1 ?f2 ?_
  case f1 => k_places
  case f2 => exact fun _ => rfl
  kst_mem
  refine l_len hp (show 3 < 2 ^ 63 by decide) fun t2 => ?_
  kst_mem
  refine range_1 fun r u1 u2 u3 => ?_
  let J_1 : Nat → Map → Led → Led → Prop := fun i m' M' I' => m' "parts" = some pv ∧ m' "word" = some (.str "columns" tw) ∧ M' = M ∧ I ⊆ I' ∧ i ≤ 2 ∧ (∃ t, m' "extent" = some (.int (if i = 0 then -1 else (A0.n : Int)) t))
  refine ⟨r, 3, _, _, _, rfl, .head _, by decide, J_1, ⟨by kp_flats, by kp_flats, rfl, List.subset_cons_self _ _, by decide, t1, by kp_flats⟩, ?_, ?_⟩
  · rintro i t m₁ M₁ I₁ hi hI₁ ⟨e1, e0, rfl, hsI, hi2, t3, e2⟩
    have hsm : ∀ (A : Mt) v, MatI w I₀ v A → MatI w I₁ v A := fun A v h => h.mono (s₀.trans hsI)
    match i, hi with
    | 0, _ =>
      obtain ⟨iv, vs', av, dv, ds, g1, g2, g3, g4, g5⟩ := id h0
      kst_mem
      refine l_item hp (by decide) (by decide) rfl ?_
      kst_mem
      refine g_kind okb g1 fun _ => ?_
      kst_mem
      rw [show (A0.kind.s == ("NULL" : Str)) = false by cases A0.kind <;> decide +kernel]
      kst_mem
      refine T_plain ?_
      kst_mem
      refine c_is_matrix (okb.le (by decide)) (hwb.trans hw) h0 ?_
      kst_mem
      refine c_shape (okb.le (by decide)) (hwb.trans hw) h0 fun l u4 u5 I2 s2 hl2 => ?_
      kst_mem
      refine tup_item (.ofI hl2) (by decide) (by decide) rfl ?_
      kst_mem
      exact ⟨by kp_flats, by kp_flats, rfl, by kqd_sub, by decide, _, by kp_flats⟩
    | 1, _ =>
      kst_mem
      refine l_item hp (by decide) (by decide) rfl ?_
      kst_mem
      refine g_nkind okb h1 fun _ => ?_
      kst_mem
      exact ⟨by kp_flats, by kp_flats, rfl, hsI, by decide, t3, by kp_flats⟩
    | 2, _ =>
      obtain ⟨iv, vs', av, dv, ds, g1, g2, g3, g4, g5⟩ := id h2
      rw [if_neg (by decide)] at e2
      kst_mem
      refine l_item hp (by decide) (by decide) rfl ?_
      kst_mem
      refine g_kind okb g1 fun _ => ?_
      kst_mem
      rw [show (A2.kind.s == ("NULL" : Str)) = false by cases A2.kind <;> decide +kernel]
      kst_mem
      refine T_plain ?_
      kst_mem
      refine c_is_matrix (okb.le (by decide)) (hwb.trans hw) h2 ?_
      kst_mem
      refine c_shape (okb.le (by decide)) (hwb.trans hw) h2 fun l u4 u5 I2 s2 hl2 => ?_
      kst_mem
      refine tup_item (.ofI hl2) (by decide) (by decide) rfl ?_
      kst_mem
      rw [show ((A2.n : Int) != (A0.n : Int)) = true by simp; omega]
      kst_mem
      refine X_raise okb ?_
      kst_mem
      refine E_joined ?_
      refine Ej.cons ?_
      kst_mem
      refine ⟨_, _, rfl, by decide +kernel, fun _ => ?_⟩
      refine Ej.cons (E_fmt ?_)
      kst_mem
      refine fmt_s (by decide +kernel) fun t7 => ?_
      refine ⟨_, _, rfl, by decide +kernel, fun _ => ?_⟩
      refine Ej.cons ?_
      kst_mem
      refine ⟨_, _, rfl, by decide +kernel, fun _ => ?_⟩
      refine Ej.cons (E_fmt ?_)
      kst_mem
      refine fmt_i (by decide +kernel) fun t8 => ?_
      refine ⟨_, _, rfl, by decide +kernel, fun _ => ?_⟩
      refine Ej.cons ?_
      kst_mem
      refine ⟨_, _, rfl, by decide +kernel, fun _ => ?_⟩
      refine Ej.nil (by decide +kernel) fun t9 => ?_
      rw [msg_is]
      kst_mem
      refine Ex_refusal (n := 1) (okb.le (by decide)) fun e t0 dx od hod => ?_
      refine ⟨e, t0, dx, rfl, .head _, e, _, dx, od, _, _, rfl, rfl, rfl, rfl, rfl, rfl, hod, .head _, fun q hq => ?_⟩
      rcases List.mem_append.mp (hK hq) with h | h
      · exact List.mem_append_left _ (.tail _ (.tail _ h))
      · exact List.mem_append_right _ ((hsI.trans s2) h)
  · rintro m₁ M₁ I₁ hI₁ ⟨e1, e0, rfl, hsI, hi2, -⟩
    omega
end
end
section
open PySem.Spec

section
variable {X : Post Value} {a : Act} {m : Map} {M I : Led} {Q : Post Value} {n : Nat}
theorem r_bind_by {w : World} (ok : a.Ok 7) (hw : a.w = w) {pv nv tv v0 v1 v2 : Value} {A0 A2 : Mt} {tw : Tok} {I₀ K : Led} (hp : LiI I₀ pv [v0, v1, v2]) (h0 : MatI w I₀ v0 A0) (h1 : NulI I₀ v1) (h2 : MatI w I₀ v2 A2) (hne : A0.n ≠ A2.n)
    (hK : K ⊆ M ++ I) (s₀ : I₀ ⊆ I := by kqd_sub) : Rx a (call (.ref 586) [pv, nv, .str "columns" tw, tv]) m M I K theMsg := by
  refine' Rx_callS (binds := [("parts", pv), ("names", nv), ("word", .str "columns" tw), ("notes", tv)]) ok ?ho ?hcd ?hb ?hk ?hnd ?hco ?hgen ?hkk ?_
  ktr_room
  intro b okb hwb fm
  dsimp only [bindM, List.foldl_cons, List.foldl_nil]
  refine Rs.last (R_assign (by with_unfolding_all rfl) ?_)
  refine' R_callK okb ?c1 ?c2 ?c3 ?_ ?c4 ?c5 ?c6 ?c7
  case c1 => k_is
  case c2 => k_places
  case c3 => k_is
  case c4 => rfl
  case c5 => rfl
  case c6 => decide
  case c7 => rfl
  kst_mem
  exact r_bound_extent okb (hwb.trans hw) hp h0 h1 h2 hne hK s₀
theorem r_bind_rows {w : World} (ok : a.Ok 10) (hw : a.w = w) {pv nv tv v0 v1 v2 : Value} {A0 A2 : Mt} {I₀ K : Led} (hp : LiI I₀ pv [v0, v1, v2]) (h0 : MatI w I₀ v0 A0) (h1 : NulI I₀ v1) (h2 : MatI w I₀ v2 A2) (hw0 : A0.Wf) (hw2 : A2.Wf) (hne : A0.cols.length ≠ A2.cols.length)
    (hK : K ⊆ M ++ I) (s₀ : I₀ ⊆ I := by kqd_sub) : Rx a (call (.ref 607) [pv, nv, tv]) m M I K theMsg := by
  refine' Rx_callS (binds := [("parts", pv), ("names", nv), ("notes", tv)]) ok ?ho ?hcd ?hb ?hk ?hnd ?hco ?hgen ?hkk ?_
  ktr_room
  intro b okb hwb fm
  dsimp only [bindM, List.foldl_cons, List.foldl_nil]
  refine Rs.next ?_
  kst_mem
  refine ⟨Nat.le_of_ble_eq_true rfl, fun D => ?_⟩
  kst_mem
  refine Rs.next ?_
  with_reducible refine' X_for_list okb fm ?f1 ?f2 ?_
  case f1 => k_places
  case f2 => exact fun _ => rfl
  kst_mem
  obtain ⟨l, c, rfl, hl'⟩ := id (hp.mono s₀)
  have hmat : ∀ {A : Mt} {v : Value} {I₁ : Led}, I ⊆ I₁ → MatI w I₀ v A → MatI w I₁ v A := fun hs h => h.mono (s₀.trans hs)
  let J_1 : Nat → Map → Led → Led → Prop := fun i m' M' I' => (m' "names" = some nv ∧ m' "notes" = some tv ∧ m' "turned" = some (.ref D)) ∧ ∃ ys c, M' = (D, Li ys c) :: M ∧ PtsI w I' ys ([Pt.mat A0.t, .nul, .mat A2.t].take i)
  refine ⟨l, _, c, rfl, hl', J_1, ⟨⟨by kp_flats, by kp_flats, by kp_flats⟩, [], 0, rfl, rfl, fun i p h => by simp at h⟩, ?_, ?_⟩
  · rintro i v m₁ M₁ I₁ hv' hI₁ ⟨⟨e1, e2, e3⟩, ys, c, rfl, hy⟩
    have hi : i < 3 := by have := (List.getElem?_eq_some_iff.mp hv').1; simpa using this
    have hyl : ys.length ≤ 3 := by have := hy.1; rw [List.length_take] at this; omega
    have key : (∃ A, MatI w I₀ v A ∧ A.Wf ∧ ∀ I', I₁ ⊆ I' → ∀ u, MatI w I' u A.t → PtsI w I' (ys ++ [u]) ([Pt.mat A0.t, .nul, .mat A2.t].take (i + 1))) ∨ (NulI I₀ v ∧ ∀ I', I₁ ⊆ I' → PtsI w I' (ys ++ [v]) ([Pt.mat A0.t, .nul, .mat A2.t].take (i + 1))) := by
      match i, hi, hv' with
      | 0, _, hv' =>
        cases hv'
        exact .inl ⟨A0, h0, hw0, fun I' hI' u hu => (hy.mono hI').snoc (p := .mat A0.t) hu⟩
      | 1, _, hv' =>
        cases hv'
        exact .inr ⟨h1, fun I' hI' => (hy.mono hI').snoc (p := .nul) (NulI.mono h1 ((s₀.trans (by kqd_sub : I ⊆ I₁)).trans hI'))⟩
      | 2, _, hv' =>
        cases hv'
        exact .inl ⟨A2, h2, hw2, fun I' hI' u hu => (hy.mono hI').snoc (p := .mat A2.t) hu⟩
    rcases key with ⟨A, hA, wf, nx⟩ | ⟨hN, nx⟩
    · have hv0 := hA
      obtain ⟨iv, vs', av, dv, ds, g1, g2, g3, g4, g5⟩ := hv0
      kst_mem
      refine E_append _ ?_
      kst_mem
      refine ⟨D, ys, c, rfl, .ofM (.head _), ?_⟩
      kst_mem
      refine g_kind okb g1 fun _ => ?_
      kst_mem
      rw [show (A.kind.s != ("NULL" : Str)) = true by cases A.kind <;> decide +kernel]
      kst_mem
      refine T_plain ?_
      kst_mem
      refine c_is_matrix (okb.le (by decide)) (hwb.trans hw) hA ?_
      kst_mem
      refine c_transpose (okb.le (by decide)) (hwb.trans hw) hA wf fun r I4 s4 hr => ?_
      kst_mem
      refine ⟨_, _, _, .head, Nat.le_trans (by omega : ys.length ≤ 1000) (by decide), ?_⟩
      kst_mem
      exact ⟨⟨by kp_flats, by kp_flats, by kp_flats⟩, _, _, rfl, nx _ s4 _ hr⟩
    · kst_mem
      refine E_append _ ?_
      kst_mem
      refine ⟨D, ys, c, rfl, .ofM (.head _), ?_⟩
      kst_mem
      refine g_nkind okb hN fun _ => ?_
      kst_mem
      refine ⟨_, _, _, .head, Nat.le_trans (by omega : ys.length ≤ 1000) (by decide), ?_⟩
      kst_mem
      exact ⟨⟨by kp_flats, by kp_flats, by kp_flats⟩, _, _, rfl, nx _ (List.Subset.refl _)⟩
  · rintro m₁ M₁ I₁ hI₁ ⟨⟨e1, e2, e3⟩, ys, c', rfl, hy⟩
    kst_mem
    have hy' : PtsI w I₁ ys [Pt.mat A0.t, .nul, .mat A2.t] := hy
    have hlen : ys.length = 3 := hy'.1
    match ys, hlen, hy' with
    | [u0, u1, u2], _, hy' =>
      obtain ⟨x0, y0, z0⟩ := hy'.2 0 _ rfl
      obtain ⟨x1, y1, z1⟩ := hy'.2 1 _ rfl
      obtain ⟨x2, y2, z2⟩ := hy'.2 2 _ rfl
      cases y0; cases y1; cases y2
      have z0 : MatI w I₁ u0 A0.t := z0
      have z1 : NulI I₁ u1 := z1
      have z2 : MatI w I₁ u2 A2.t := z2
      refine Rs.freeze ?_
      refine Rs.last (R_assign (by with_unfolding_all rfl) ?_)
      refine' R_callK okb ?c1 ?c2 ?c3 ?_ ?c4 ?c5 ?c6 ?c7
      case c1 => k_is
      case c2 => k_places
      case c3 => k_is
      case c4 => rfl
      case c5 => rfl
      case c6 => decide
      case c7 => rfl
      kst_mem
      refine r_bind_by (I₀ := (D, Li [u0, u1, u2] c') :: I₁) (okb.le (by decide)) (hwb.trans hw) ⟨D, c', rfl, .head _⟩ (z0.mono (List.subset_cons_self _ _)) (NulI.mono z1 (List.subset_cons_self _ _)) (z2.mono (List.subset_cons_self _ _)) hne (fun q hq => ?_) (List.Subset.refl _)
      rcases List.mem_append.mp (hK hq) with h | h
      · exact List.mem_append_left _ h
      · exact List.mem_append_right _ (.tail _ ((by kqd_sub : I ⊆ I₁) h))
end
end
section
open PySem.Spec

/-- an act whose frame is plain -/
abbrev Ac (w : World) (A A₀ : Around) (base : Heap) (outer : List Env) (g : Heap) (L : Addr) (name : Str) (scope : Scope) (f : Addr) (cd : Value) : Act :=
  ⟨w, A, A₀, base, outer, g, L, envOf name scope L f cd, envOf name scope L f cd⟩
section
variable {w : World} {A A₀ : Around} {base g : Heap} {outer : List Env} {L f : Addr} {name : Str} {scope : Scope} {cd : Value} {n : Nat}
theorem caught_refusal (ok : (Ac w A A₀ base outer g L name scope f cd).Ok n) {K : Led} {msg : Str} {s s₁ : Shared} {ev : Value} {nm : Str} {np pos : Pos} {b₀ : Stmt} {suite : List Stmt} {rest : List ExceptHandler} {Q : Flow → Shared → Prop} {E : Value → Shared → Prop}
    (fl : Fly (Ac w A A₀ base outer g L name scope f cd) K msg s ev s₁) (hk : scope.kind = .function) (hx : (envOf name scope L f cd).kindOf "Refusal" = some .globalImplicit) (hn : (envOf name scope L f cd).kindOf nm = some .local)
    (k : ∀ e dx od oe h' g' mf' tk, MsgO msg od → oe.cls = .ref 51 → oe.dict = some dx → (∃ vs, oe.data = .fields vs) → KtsTurn (outer.filterMap (·.frame)) g g' → Fr g' L h' mf' → mf' nm = some (.ref e) → (∀ q ∈ (e, oe) :: (dx, od) :: K, h'.get? q.1 = some q.2 ∧ q.1 ≠ L ∧ g'.get? q.1 = none) → (hd.heap_39 w.params).In g' →
      wpAny (model PG w) (A.mark (some (.ref e))) (execs (b₀ :: suite) (envOf name scope L f cd))
        (fun f' s₄ => wpAny (model PG w) A (do bindName (envOf name scope L f cd) nm .none; unbindBehindTheSuite (envOf name scope L f cd) nm pos) (fun _ s₅ => Q f' s₅) E s₄)
        (AsSuiteRaised (model PG w) (A.mark (some (.ref e))) (envOf name scope L f cd) nm pos (notedBy (model PG w) (A.mark (some (.ref e))) (envOf name scope L f cd) (cameBackBy (model PG w) A (envOf name scope L f cd) E))) { s₁ with heap := h', toks := tk }) :
    wpAny (model PG w) A (noteFrame ev (envOf name scope L f cd)) (fun _ s₂ => wpAny (model PG w) A (setFlight ev none) (fun _ s₃ =>
      wpAny (model PG w) A (handleBy ev (envOf name scope L f cd) (.ExceptHandler (some (.Name "Refusal" np)) (some nm) (b₀ :: suite) pos :: rest)) Q E s₃) E s₂) E s₁ := by
  obtain ⟨hs, e, dx, od, G, mf, news, rfl, hmsg, F, hsm, hK, hod, B, r1, r2, r3, r4⟩ := fl
  dsimp only [Ac] at F r1 r2 r3 r4
  have hL : B.get? L = none := by
    obtain ⟨_, ⟨L', _, hf, hn', _⟩, _⟩ := r4.ff
    obtain rfl : L = L' := Option.some.inj hf
    exact hn'
  have hB : Below A₀ base outer g := ok.B
  have XB : (hd.heap_39 w.params).In base := ok.XB
  have TB : TopAny base := ok.TB
  refine noteD ok.hA rfl r4 fun h₄ i₄ u₄ => ?_
  refine flightG (fr := none) i₄ fun h₅ i₅ u₅ => ?_
  have sm₅ := (hsm.trans u₄).trans u₅
  obtain ⟨g₅, T₅, F₅, K₅⟩ := kts_ground hB F r2 i₅.st sm₅
  have X₅ : (hd.heap_39 w.params).In g₅ := XB.keeps K₅.stays
  obtain ⟨p, l, me, mg, mb, P₅⟩ := TB.keeps K₅.stays
  obtain ⟨oe, vs, hoe, hoec, hoed, hoef⟩ := i₅.there
  have X₅' : (hd.heap_39 w.params).In h₅ := X₅.keeps F₅.keep
  obtain ⟨cnm, q', N, bs, hdct, sn, sub, ab, col, dd, k0, k1, k2, k3, k5, hC⟩ := cls51 X₅'
  refine wpAny_handleBy_cons (codeAny_handlers_test (name_K F₅ X₅ (topRead_of P₅) (v := .ref 51) (by k_is) ?_ hk hx (by decide))) (by intro q; cases q)
  refine wpAny_excMatches_sub_self hC hoe hoec (by decide +kernel) (codeAny_handlers_suite_as ?_)
  refine flightG (fr := none) i₅ fun h₆ i₆ u₆ => ?_
  obtain ⟨g₆, T₆, F₆, K₆⟩ := kts_ground hB F r2 i₆.st (sm₅.trans u₆)
  obtain ⟨oe6, vs6, hoe6, hoec6, hoed6, hoef6⟩ := i₆.there
  have ne₆ : g₆.get? e = none := T₆.none_ _ (kts_fresh F r2 i₆.en fun o ho m => by
    obtain ⟨_, o', ho', hd⟩ := hB.frames.mem m
    rw [ho] at ho'
    cases ho'
    obtain ⟨sl, hs⟩ := (sm₅.trans u₆) _ _ (F.keep _ _ ho) hd
    rw [hoe6] at hs
    cases hs
    exact hd _ hoef6)
  have N₆ : News g₆ L h₆ [(e, oe6)] := News.more F₆ News.nil hoe6 (fun es n q => by rw [hoef6] at q; cases q) ne₆
  have Nl : News g₆ L h₆ news := fun q hq => ⟨i₆.st _ _ (r3 q hq).1, (fun z => by have := (r3 q hq).1; rw [z, hL] at this; cases this), T₆.none_ _ (kts_none F.keep (r3 q hq).2.1)⟩
  refine stN F₆ (news := [(e, oe6)] ++ news) (fun q hq => (List.mem_append.mp hq).elim (N₆ q) (Nl q)) (fun h₇ F₇ N₇ => ?_) hk hn
  refine k e dx od oe6 h₇ g₆ _ _ hmsg hoec6 hoed6 ⟨vs6, hoef6⟩ T₆ F₇ (by simp) (fun q hq => ?_) (XB.keeps K₆.stays)
  rcases List.mem_cons.mp hq with rfl | hq
  · exact N₇ _ (List.mem_append_left _ (.head _))
  · rcases List.mem_cons.mp hq with rfl | hq
    · exact N₇ _ (List.mem_append_right _ hod)
    · exact N₇ _ (List.mem_append_right _ (hK hq))
end
end
section
open PySem.Spec

theorem bindM_lookup {x : Str} : ∀ (binds : List (Str × Value)) (m : Map), bindM binds m x = (binds.reverse.lookup x).or (m x)
  | [], m => by simp [bindM]
  | (y, v) :: r, m => by
    show bindM r (upd m y v) x = _
    rw [bindM_lookup r]
    simp only [List.reverse_cons, List.lookup_append]
    cases h : r.reverse.lookup x with
    | some u => simp
    | none =>
      by_cases e : x = y
      · subst e; simp [upd]
      · have : (x == y) = false := by simpa using e
        simp [upd, e, List.lookup, this]
section
variable {b : Act} {m : Map} {M I : Led} {Q : Post Value} {X : Post Value} {n : Nat}
/-- a call of a plain def of the text from the law's own frame, the frame's slots may turn -/
theorem call_try (ok : b.Ok (n + 1)) (hou : b.outer = []) {cn : Str} {cs : Scope} {fa : Addr} {ccd : Value} (hfe : b.fenv = envOf cn cs b.L fa ccd) (hck : cs.kind = .function)
    {name qual : Str} {params : Arguments} {body : List Stmt} {scope : Scope} {dV kV doc pm cdv ct oc : Value} {an od : Option Addr} {osl : Array (Option Value)} {f : Addr} {args : List Value} {binds : List (Str × Value)} {u : Value}
    (ho : (hd.heap_39 b.w.params).lookup f = some ⟨oc, od, .func (fnOf name qual params body scope dV kV doc pm an cdv ct), osl⟩) (hcd : codeIn (hd.heap_39 b.w.params) cdv qual = true)
    (hbind : ∀ s : Shared, (hd.heap_39 b.w.params).In s.heap → BindsTo s (fnOf name qual params body scope dV kV doc pm an cdv ct) ⟨args, []⟩ binds)
    (hloc : ∀ y ∈ binds, scope.names.lookup y.1 = some .local) (hcell : ∀ x ∈ scope.names, x.2 ≠ .cell)
    (hco : scope.isCoroutine = false) (hgen : scope.isGenerator = false) (hk : scope.kind = .function)
    (h : ∀ (g : Heap) (L' : Addr) (c : Act), c = Ac b.w (b.A.deeper (envOf qual scope L' f cdv)) b.A b.base [envOf cn cs b.L fa ccd] g L' qual scope f cdv → c.Ok n → Fm c scope →
      ∀ mfc H s, Holds c mfc [] (bindM binds fun _ => none) → Sit c mfc ([] ++ H) M I s →
        wpAny (model PG c.w) c.A (execs body c.env)
          (fun fl s' => ∃ g' m', fl = .ret u ∧ KtsTurn ([envOf cn cs b.L fa ccd].filterMap (·.frame)) g g' ∧ Fr g' L' s'.heap m' ∧ News g' L' s'.heap (H ++ (M ++ I)) ∧ Same s s') (fun _ _ => False) s)
    (q : Q u M I) : Ex b (call (.ref f) args) m M I Q X := by
  intro mf H s hm S
  obtain ⟨p, l, me, mg, mb, T⟩ := ok.T
  have hB : Below b.A₀ b.base [] b.h₀ := hou ▸ ok.B
  have hA : b.A.frames = some [envOf cn cs b.L fa ccd] := by rw [ok.hA, hou, hfe]
  refine wpAny_call ?_
  refine code_defS0 hB S.F ok.X S.N T hA ho hcd (by have := ok.hd; have : recursionLimit = 1000 := rfl; omega) (hbind s (S.keepK ok)) hloc ?_ hck hco hgen hk hcell
  intro g L' h₁ FG F' N' B' X' T' KD
  have okc : (Ac b.w (b.A.deeper (envOf qual scope L' f cdv)) b.A b.base [envOf cn cs b.L fa ccd] g L' qual scope f cdv).Ok n := {
    X := X'
    T := ⟨p, l, me, mg, mb, T'⟩
    XB := ok.XB
    TB := ok.TB
    B := B'
    hA := Around.frames_deeper hA
    hf := rfl
    hk := hk
    hh := ok.hh
    hd := by show b.A.depth + 1 + 2 * n ≤ 900; have := ok.hd; omega
    hu := by show b.A.units + 3 + 8 * n ≤ 9000; have := ok.hu; omega
    ek := hk
    eg := rfl
    eb := rfl }
  have nocell : ∀ x, scope.names.lookup x ≠ some .cell := fun x e => hcell _ (mem_of_lookup e) rfl
  have fm : Fm (Ac b.w (b.A.deeper (envOf qual scope L' f cdv)) b.A b.base [envOf cn cs b.L fa ccd] g L' qual scope f cdv) scope := by
    refine ⟨rfl, rfl, rfl, ?_, fun x y c h1 _ => by cases h1⟩
    show [] = cellsFrom (L' + 1) scope.names []
    have : ∀ (l : List (Str × NameKind)) (k : Nat), (∀ x ∈ l, x.2 ≠ .cell) → cellsFrom k l [] = [] := by
      intro l
      induction l with
      | nil => intro k _; rfl
      | cons y r ih =>
        intro k hc
        obtain ⟨y1, y2⟩ := y
        unfold cellsFrom
        have : (y2 == NameKind.cell) = false := by
          have := hc _ (.head _)
          cases y2 <;> first | rfl | exact absurd rfl this
        rw [this]
        exact ih k fun x hx => hc x (.tail _ hx)
    exact (this _ _ hcell).symm
  have hb : Holds (Ac b.w (b.A.deeper (envOf qual scope L' f cdv)) b.A b.base [envOf cn cs b.L fa ccd] g L' qual scope f cdv) (fun y => binds.reverse.lookup y) [] (bindM binds fun _ => none) := by
    refine ⟨fun x v e _ => .inl ⟨rfl, ?_⟩, fun x q => absurd q (nocell x)⟩
    rw [bindM_lookup] at e
    cases hq : binds.reverse.lookup x with
    | none => rw [hq] at e; cases e
    | some u => rw [hq] at e; exact e
  have Sb : Sit (Ac b.w (b.A.deeper (envOf qual scope L' f cdv)) b.A b.base [envOf cn cs b.L fa ccd] g L' qual scope f cdv) (fun y => binds.reverse.lookup y) ([] ++ H) M I { s with heap := h₁, toks := s.toks + binds.length } := ⟨F', N', S.D⟩
  refine wpAny_mono (h g L' _ rfl okc fm _ H _ hb Sb) ?_ (fun _ _ h => h.elim)
  rintro fl s' ⟨g', m', rfl, KT, F2, N2, hs⟩
  exact ⟨g', L', m', _, KT, F2, N2, fun F3 N3 => ⟨M, I, ⟨F3, N3, S.D⟩, fun _ h => h, Same.trans (s' := { s with heap := h₁, toks := s.toks + binds.length }) ⟨rfl, rfl, rfl⟩ hs, q⟩⟩
end
end
section
open PySem.Spec

noncomputable def Oth (W : Nat) : Mt := ⟨.i, 1, List.replicate (W + 1) [.int 1], none, none⟩
theorem oth_flat {W : Nat} : (Oth W).cols.flatten = List.replicate (W + 1) (.int 1) := by simp [Oth, List.flatten_replicate_singleton]
theorem oth_wf {W : Nat} (h : W ≤ 3) : (Oth W).Wf := by
  refine ⟨fun c hc => ?_, Nat.le_trans (show 1 ≤ 2 by decide) (by decide), ?_, (fun ns e => nomatch e), (fun ns e => nomatch e)⟩
  · rw [(List.mem_replicate.mp hc).2]; rfl
  · simp [Oth]; omega
section
variable {b : Act} {w : World}
theorem ref_ok (okb : b.Ok 12) (hbw : b.w = w) (hou : b.outer = []) {cn : Str} {cs : Scope} {fa : Addr} {ccd : Value} (hfe : b.fenv = envOf cn cs b.L fa ccd) (hck : cs.kind = .function) : RefOk b w := by
  intro m M I I₀ Q X v tw W B hv bk hW1 hW3 q s₀
  refine' call_try (n := 11) (u := .bool true) (binds := [("block", v), ("width", .int (W : Int) tw)]) okb hou hfe hck ?ho ?hcd ?hb ?hloc ?hcell ?hco ?hgen ?hkk ?_ (q I (List.Subset.refl _))
  case ho => k_is
  case hcd => k_is
  case hb => exact fun s X => BindsTo.of_eq rfl
  case hloc => exact locs rfl
  case hcell => decide
  case hco => rfl
  case hgen => rfl
  case hkk => rfl
  intro g L' c hc okc fm mfc H s hm S
  have hcw : c.w = w := by rw [hc]; exact hbw
  refine wpAny_execs_cons ?_
  refine' wpAny_mono ((?st1 : Xs c (exec _ c.env) _ M I (fun fl m' M' I' => fl = .next ∧ M' = M ∧ m' "block" = some v ∧ ∃ ov, m' "other" = some ov ∧ MatI w I' ov (Oth W)) noX) mfc [] H s hm S) ?_ ?_
  case st1 =>
    have eW : ((W : Int) + 1) = ((W + 1 : Nat) : Int) := by push_cast; rfl
    have eL : (Oth W).cols.length = W + 1 := by simp [Oth]
    kst_mem
    refine ⟨Nat.le_of_ble_eq_true rfl, fun N1 => ?_⟩
    kst_mem
    rw [eW]
    refine mul_li (.ofM (.head _)) (Nat.le_trans (by omega : W + 1 ≤ 1000) (by decide)) fun N2 => ?_
    kst_mem
    refine ⟨Nat.le_of_ble_eq_true rfl, fun N3 => ?_⟩
    kst_mem
    kst_p
    kst_p
    kst_p
    refine c_integer (okc.le (by decide)) ⟨N3, 0, rfl, .tail _ (.tail _ (.head _))⟩ (Nat.le_of_ble_eq_true rfl) (fun dv ds J1 sJ1 hdv hds => ?_) (List.Subset.refl _)
    kst_mem
    refine ⟨rfl, by simp [strPairs], fun dd od hod lo => ?_⟩
    rw [hcw] at hod
    kst_mem
    kst_p
    refine i_vector3 (okc.le (by decide)) fun ov J2 sJ2 hov => ?_
    refine ⟨rfl, rfl, by kp_flats, ov, by kp_flats, ?_⟩
    rw [eW, ← eL] at hds
    exact ⟨.ref N2, _, .ref dd, dv, ds, hov, ⟨N2, 0, rfl, sJ2 (.tail _ (sJ1 (.tail _ (.head _))))⟩, by rw [oth_flat]; exact dat_rep (.int _ _) _, ⟨_, _, hdv.mono (by kqd_sub), hds.mono (by kqd_sub)⟩, .inl ⟨rfl, rfl, ⟨dd, od, rfl, sJ2 (.head _), hod, lo⟩⟩⟩
  · rintro fl s1 ⟨mf1, G1, m1, M1, I1, hm1, S1, hI1, hs1, rfl, rfl, e1, ov, e2, hov⟩
    refine wpAny_execs_cons (wpAny_Try_except ?_)
    refine' wpAny_mono ((?rs : Rs c (execs _ c.env) m1 M1 I1 (M1 ++ I) theMsg) mf1 G1 H s1 hm1 S1) (fun _ _ h => h.elim) ?_
    case rs =>
      refine Rs.last (R_expr (by k_all) (by with_unfolding_all rfl) ?_)
      refine' R_callK okc ?c1 ?c2 ?c3 ?_ ?c4 ?c5 ?c6 ?c7
      case c1 => k_is
      case c2 => k_places
      case c3 => k_is
      case c4 => rfl
      case c5 => rfl
      case c6 => decide
      case c7 => rfl
      kst_mem
      refine i_null (okc.le (by decide)) fun nu I6 s6 hnu => ?_
      kst_mem
      refine ⟨Nat.le_of_ble_eq_true rfl, fun Q1 => ?_⟩
      kst_mem
      refine ⟨Nat.le_of_ble_eq_true rfl, fun Q2 => ?_⟩
      kst_mem
      refine ⟨Nat.le_of_ble_eq_true rfl, fun Q3 => ?_⟩
      kst_mem
      refine Rx.freeze (Rx.freeze (Rx.freeze ?_))
      have eL : (Oth W).cols.length = W + 1 := by simp [Oth]
      have eB : B.cols.length = W := bk.c
      refine r_bind_rows (I₀ := (Q1, Li [v, nu, ov] 0) :: (Q2, Li [Value.none, Value.none, Value.none] 0) :: (Q3, Li [] 0) :: I6) (okc.le (by decide)) hcw ⟨Q1, 0, rfl, .head _⟩ (hv.mono (by kqd_sub)) (NulI.mono hnu (by kqd_sub)) (hov.mono (by kqd_sub)) bk.gd.wf (oth_wf hW3) (by omega) (fun q hq => ?_) (List.Subset.refl _)
      rcases List.mem_append.mp hq with h | h
      · exact List.mem_append_left _ h
      · exact List.mem_append_right _ (.tail _ (.tail _ (.tail _ (s6 (hI1 h)))))
    · intro ev s2 fl
      subst hc
      refine caught_refusal okc fl rfl rfl rfl ?_
      have hs2 : Same s s2 := hs1.trans fl.1
      rintro e dx od oe h' g' mf' tk ⟨tm, hmsg⟩ hoc hod ⟨vs, hof⟩ KT F2 hn N2 X2
      have hX : (hd.heap_39 b.w.params).In h' := X2.keeps F2.keep
      have he := (N2 _ (.head _)).1
      have hdx := (N2 _ (.tail _ (.head _))).1
      have hi : InstAt h' e oe 51 (some od) := ⟨he, hoc, by unfold notCls; rw [hof], by rw [hod]; exact hdx⟩
      have NK : News g' L' h' (H ++ (M1 ++ I)) := fun q hq => N2 q (.tail _ (.tail _ hq))
      refine wpAny_execs_cons (wpAny_Return_some (wpAny_Compare1 ?_ (by with_unfolding_all rfl)))
      refine Attribute_any_ (wpAny_Name (wpAny_loadName_local rfl rfl F2.ns hn ?_) (by decide)) (by rfl)
      refine get_msg hX hi hmsg rfl ?_
      refine wpAny_Constant_str ?_
      refine eq_str ?_
      refine name_goes_keeps (L := L') (m := mf') (h₀ := g') F2 NK (fun h3 v3 F3 N3 => ?_) rfl rfl
      exact ⟨g', _, by rw [show (theMsg == ("number of columns of matrices must match (see arg 3)" : Str)) = true by decide +kernel], KT, F3, N3, hs2.trans ⟨rfl, rfl, rfl⟩⟩
  · rintro e s' ⟨_, _, _, _, _, _, _, h⟩
    exact h.elim
end
end
section
open PySem.Spec

section
theorem law_end {w : World} {s₁ : Shared} {h₁ : Heap} {tk : Nat} {fa : Addr} {cd : Value} {d : DefRec} {vs : List Value} {l : Addr} {ns : List Int} {p : Program} {loose : List Str} {mean : ExcName → Option Value} {mg mb m₀ : Str → Option Value} {o : Obj} {pm doc dV kV : Value}
    {Q : Flow → Shared → Prop} {E : Value → Shared → Prop} (KX : (hd.heap_39 w.params).In s₁.heap) (T : Top p loose mean mg mb s₁.heap) (hmg : mg d.name = some (.ref fa)) (hname : d.name = "law") (ho : s₁.heap.get? fa = some o)
    (hd' : o.data = .func { docDef d.name d.params d.body d.scope pm cd doc with defaults := dV, kwdefaults := kV }) (hl : s₁.heap.IsList l vs.toArray) (hI : IntsAre vs ns) (hn : ns.length ≤ 63)
    (F : Fr s₁.heap s₁.heap.objs.size h₁ m₀) (hm : m₀ "script" = some (.ref l)) (N : News s₁.heap s₁.heap.objs.size h₁ []) (hk : d.scope.kind = .function) (hcell : ∀ x ∈ d.scope.names, x.2 ≠ .cell)
    (fin : ∀ h₂ tk₂ m₂, Fr s₁.heap s₁.heap.objs.size h₂ m₂ → Q (.ret (.bool true)) ⟨h₂, s₁.gens, s₁.drawn, tk₂, s₁.os⟩) :
    wpAny (model PG w) (callerA.deeper (envOf d.name d.scope s₁.heap.objs.size fa cd)) (execs d.body (envOf d.name d.scope s₁.heap.objs.size fa cd)) Q E ⟨h₁, s₁.gens, s₁.drawn, tk, s₁.os⟩ := by
  obtain ⟨body, scope, ⟨name, qual, params, dV', kV', doc', pm', cdv', ct', oc', an', od', osl', hlook⟩, run⟩ := law_xs (w := w)
  have e678 : mg "law" = some (.ref 678) := mg_of KX T.g (by k_is)
  rw [hname, e678] at hmg
  cases hmg
  have hO := KX _ _ hlook
  rw [ho] at hO
  cases hO
  have e := hd'
  injection e with e
  have eb := congrArg FuncData.body e
  have es := congrArg FuncData.scope e
  dsimp only [fnOf, docDef] at eb es
  injection eb with eb
  subst eb es
  have okc : (Ac w (callerA.deeper (envOf d.name d.scope s₁.heap.objs.size 678 cd)) callerA s₁.heap [] s₁.heap s₁.heap.objs.size d.name d.scope 678 cd).Ok 12 := {
    X := KX
    T := ⟨p, loose, mean, mg, mb, T⟩
    XB := KX
    TB := ⟨p, loose, mean, mg, mb, T⟩
    B := below_caller _
    hA := Around.frames_deeper rfl
    hf := rfl
    hk := hk
    hh := rfl
    hd := by show callerA.depth + 1 + 2 * 12 ≤ 900; decide
    hu := by show callerA.units + 3 + 8 * 12 ≤ 9000; decide
    ek := hk
    eg := rfl
    eb := rfl }
  have nocell : ∀ x, d.scope.names.lookup x ≠ some .cell := fun x e => hcell _ (mem_of_lookup e) rfl
  have fm : Fm (Ac w (callerA.deeper (envOf d.name d.scope s₁.heap.objs.size 678 cd)) callerA s₁.heap [] s₁.heap s₁.heap.objs.size d.name d.scope 678 cd) d.scope := by
    refine ⟨rfl, rfl, rfl, ?_, fun x y c h1 _ => by cases h1⟩
    show [] = cellsFrom (s₁.heap.objs.size + 1) d.scope.names []
    have : ∀ (l : List (Str × NameKind)) (k : Nat), (∀ x ∈ l, x.2 ≠ .cell) → cellsFrom k l [] = [] := by
      intro l
      induction l with
      | nil => intro k _; rfl
      | cons y r ih =>
        intro k hc
        obtain ⟨y1, y2⟩ := y
        unfold cellsFrom
        have : (y2 == NameKind.cell) = false := by
          have := hc _ (.head _)
          cases y2 <;> first | rfl | exact absurd rfl this
        rw [this]
        exact ih k fun x hx => hc x (.tail _ hx)
    exact (this _ _ hcell).symm
  have hb : Holds (Ac w (callerA.deeper (envOf d.name d.scope s₁.heap.objs.size 678 cd)) callerA s₁.heap [] s₁.heap s₁.heap.objs.size d.name d.scope 678 cd) m₀ [] (upd (fun _ => none) "script" (.ref l)) := by
    refine ⟨fun x v e _ => .inl ⟨rfl, ?_⟩, fun x q => absurd q (nocell x)⟩
    unfold upd at e
    by_cases hx : x = "script"
    · subst hx; rw [if_pos rfl] at e; rw [hm]; exact e
    · rw [if_neg hx] at e; cases e
  have Sb : Sit (Ac w (callerA.deeper (envOf d.name d.scope s₁.heap.objs.size 678 cd)) callerA s₁.heap [] s₁.heap s₁.heap.objs.size d.name d.scope 678 cd) m₀ ([] ++ []) [] [] ⟨h₁, s₁.gens, s₁.drawn, tk, s₁.os⟩ := ⟨F, N, .nil⟩
  have hvs : ∀ v ∈ vs, ∃ i t, v = Value.int i t := by
    clear hl
    induction hI with
    | nil => intro v h; cases h
    | cons i t _ ih =>
      intro v h
      rcases List.mem_cons.mp h with rfl | h
      · exact ⟨_, _, rfl⟩
      · exact ih (by simp at hn; omega) v h
  have r := run _ l vs okc rfl fm (ref_ok okc rfl rfl rfl hk) hl hvs (by rw [hI.length]; exact hn) m₀ [] [] _ hb Sb
  refine wpAny_mono r ?_ ?_
  · rintro fl s' ⟨mf', G', m', M', I', hm', S', -, hs, rfl⟩
    have e := hs.eq
    rw [e]
    exact fin _ _ _ S'.F
  · rintro e s' ⟨_, _, _, _, _, _, _, h⟩
    exact h.elim
end
end
section
open PySem.Spec
theorem the_law : PySem.Challenge.rw_ov0081_01.Holds := by
  refine hd_of rfl rfl rfl ?_
  k_fill
  intro w s₀ s₁ mg mb G Y fa o pm cd doc dV kV ho hd' hcd hD hmg hg args vals as hpre hlay hrd hwl hlo
  have KX := kIn_of Y
  have hmg2 := hmg
  have ho2 := ho
  have hd2 := hd'
  have V := (Ground.X G).2
  refine Ground.open G ?_
  intro T B D TE TW
  try (refine guard_noD D (by decide +kernel) ?_; clear D)
  obtain ⟨_, _, M⟩ := bmod_of_top T
  try (obtain ⟨_, _, he, B0⟩ := based_of_top T rfl hmg ho hd'; have he' : cd = _ := he; subst he'; clear he)
  clear hmg
  wrow_args hpre hlay hrd hwl hlo
  refine enter_call ?_
  w_top on
  try refine codeAny_mono ?_ (fun _ _ g => GoodW.toG g)
  have K0 := below_caller (Top.heap T)
  w_call any ho hd' hcd hD T F
  refine' law_end KX ?T hmg2 rfl ho2 hd2 ?l ?i ?n ?F ?hm ?N ?hk ?c ?fin
  case T => assumption
  case l => assumption
  case i => assumption
  case n => omega
  case F => assumption
  case N => assumption
  case hm => rfl
  case hk => rfl
  case c => decide
  case fin =>
    intro h₂ tk₂ m₂ F
    refine goodW_bool F hg ?_ ?_ rfl
    · intro cls; with_unfolding_all rfl
    · with_unfolding_all rfl
end
end Mine
theorem PySem.Challenge.cw_ov0081_01_holds : PySem.Challenge.rw_ov0081_01.Holds := by
  exact Mine.the_law
