import PyProof.Rows.All
import Wide.All
import OpenK.AllK
import Wide.FinOn
import Lean
import PySem.Challenge.RW_ov0071_01
open PySem PySem.W PyProof.Rows PySem.Calls PySem.Spec
set_option Elab.async false
set_option maxRecDepth 100000
set_option linter.unusedVariables false
namespace Mine
set_option maxHeartbeats 8000000
noncomputable abbrev P0 : Program := PySem.Challenge.pw_ov0071_01
noncomputable abbrev RW0 : OpenLaw := PySem.Challenge.rw_ov0071_01
noncomputable abbrev pass0 : Stmt := .Pass ⟨0, 0, 0, 0⟩
noncomputable def stIn (p : Program) (i : Nat) : Stmt := (p.main.body[i]?).getD pass0
noncomputable def subIn (st : Stmt) (j : Nat) : Stmt := match st with
  | .ClassDef _ _ _ b _ _ _ _ _ _ _ => (b[j]?).getD pass0
  | st => st
noncomputable def parOf : Stmt → Arguments
  | .FunctionDef _ a _ _ _ _ _ _ _ _ => a
  | _ => ⟨[], [], none, [], [], none, []⟩
noncomputable def bodOf : Stmt → List Stmt
  | .FunctionDef _ _ b _ _ _ _ _ _ _ => b
  | _ => []
noncomputable def scoOf : Stmt → Scope
  | .FunctionDef _ _ _ _ _ _ sc _ _ _ => sc
  | _ => ⟨.function, [], false, false, []⟩
noncomputable def posOf : Stmt → Pos
  | .FunctionDef _ _ _ _ _ _ _ _ _ q => q
  | _ => ⟨0, 0, 0, 0⟩
noncomputable abbrev en (P : Params) (x : String) (t : Tok) (v : Value) : DictEntry := ⟨PyData.keyHash P (Str.ofString x), .str (Str.ofString x) t, v⟩
noncomputable abbrev s (x : String) : Str := Str.ofString x
noncomputable def o2 (P : Params) : Obj := ⟨.none, none, .dict #[en P "type.__subclasses__.Exception.0" 212 (.int 31 0), en P "type.__subclasses__.Exception.n" 213 (.int 1 0)] 2, #[]⟩
noncomputable def o3 (P : Params) : Obj := ⟨.type "dict", none, .dict #[en P "__name__" 165 (.str (s "law_ov0071_01") 746), en P "__doc__" 166 (.none), en P "__package__" 167 (.none), en P "__loader__" 168 (.builtin "__main__.__loader__#opaque"), en P "__spec__" 169 (.none), en P "__annotations__" 170 (.ref 6), en P "__builtins__" 171 (.ref 4), en P "__file__" 173 (.str (s "/claim/cut.py") 172), en P "__cached__" 174 (.none), en P "_wall" 193 (.ref 21), en P "CoveError" 215 (.ref 31), en P "Refusal" 240 (.ref 51), en P "Vector" 284 (.ref 78), en P "Symbol" 315 (.ref 99), en P "Call" 350 (.ref 121), en P "number" 361 (.ref 133), en P "call_of" 370 (.ref 140), en P "same_attrs" 383 (.ref 147), en P "same_items" 393 (.ref 154), en P "same_formals" 402 (.ref 161), en P "same_slots" 411 (.ref 168), en P "same_dots" 424 (.ref 175), en P "same_kernel" 434 (.ref 182), en P "identical" 442 (.ref 189), en P "names_items" 449 (.ref 196), en P "same_code" 457 (.ref 203), en P "children" 466 (.ref 210), en P "add_names" 477 (.ref 217), en P "all_names" 486 (.ref 224), en P "all_vars" 496 (.ref 231), en P "Terms" 535 (.ref 248), en P "called_name" 542 (.ref 259), en P "is_formula_call" 549 (.ref 266), en P "formula_parts" 556 (.ref 273), en P "constant_whole" 564 (.ref 280), en P "union" 574 (.ref 287), en P "crossed" 585 (.ref 294), en P "joined" 594 (.ref 301), en P "members" 603 (.ref 308), en P "by_degree" 613 (.ref 315), en P "TermReader" 716 (.ref 379), en P "expand" 722 (.ref 389), en P "term_language" 732 (.ref 396), en P "right_side" 738 (.ref 401), en P "formula_of" 745 (.ref 408), en P "_law_figure" 756 (.ref 415), en P "_law_side" 767 (.ref 422), en P "_law_two" 776 (.ref 429), en P "_law_row" 782 (.ref 434), en P "_law_same" 790 (.ref 441), en P "law" 796 (.ref 446)] 51, #[]⟩
noncomputable def o61 (_P : Params) : Obj := ⟨.type "tuple", none, .seq #[.none] 0, #[]⟩
noncomputable def o67 (_P : Params) : Obj := ⟨.type "code", none, .fields #[.str (s "__init__") 255, .str (s "Vector.__init__") 256, .str (s "/claim/cut.py") 257, .int 14 0, .int 4 0, .int 0 0, .int 0 0, .int 3 0, .ref 62, .bool true, .int 181 0, .ref 63, .none, .ref 64, .ref 65, .ref 66, .int 262 0, .int 14 0, .str (s "/claim/cut.py") 263], #[]⟩
noncomputable def o68 (pp : Program) (_P : Params) : Obj := ⟨.type "function", none, .func (fnOf (s "__init__") (s "Vector.__init__") (parOf (subIn (stIn pp 5) 0)) (bodOf (subIn (stIn pp 5) 0)) (scoOf (subIn (stIn pp 5) 0)) (.ref 61) (.none) (.none) (.str (s "vectorcove.values") 241) none (.ref 67) .none), #[]⟩
noncomputable def o77 (P : Params) : Obj := ⟨.type "dict", none, .dict #[en P "__module__" 250 (.str (s "vectorcove.values") 241), en P "__firstlineno__" 254 (.int 12 253), en P "__init__" 264 (.ref 68), en P "copy" 271 (.ref 75), en P "__static_attributes__" 277 (.ref 76), en P "__dict__" 279 (.ref 79), en P "__weakref__" 281 (.ref 80), en P "__doc__" 282 (.none)] 4, #[]⟩
noncomputable def o78 (_P : Params) : Obj := ⟨.type "type", none, .cls { name := (s "Vector"), bases := [.type "object"], mro := [.ref 78, .type "object"], ns := 77, qualname := (s "Vector"), hasDict := true, slotNames := [], subclasses := [], abstract := false, collection := none, hasDel := false }, #[none, none, some (.str (s "Vector") 243), some (.str (s "Vector") 251), some (.builtin "object.__new__"), some (.bool true)]⟩
noncomputable def o79 (_P : Params) : Obj := ⟨.type "getset_descriptor", none, .fields #[.str (s "__dict__") 278, .ref 78, .builtin "function.__dict__", .builtin "function.__dict__#set"], #[]⟩
noncomputable def o80 (_P : Params) : Obj := ⟨.type "getset_descriptor", none, .fields #[.str (s "__weakref__") 280, .ref 78, .builtin "ExceptionGroup.__weakref__", .none], #[]⟩
noncomputable def o95 (_P : Params) : Obj := ⟨.type "code", none, .fields #[.str (s "__init__") 297, .str (s "Symbol.__init__") 298, .str (s "/claim/cut.py") 299, .int 25 0, .int 2 0, .int 0 0, .int 0 0, .int 3 0, .ref 90, .bool true, .int 181 0, .ref 91, .none, .ref 92, .ref 93, .ref 94, .int 302 0, .int 25 0, .str (s "/claim/cut.py") 303], #[]⟩
noncomputable def o96 (pp : Program) (_P : Params) : Obj := ⟨.type "function", none, .func (fnOf (s "__init__") (s "Symbol.__init__") (parOf (subIn (stIn pp 6) 0)) (bodOf (subIn (stIn pp 6) 0)) (scoOf (subIn (stIn pp 6) 0)) (.none) (.none) (.none) (.str (s "vectorcove.values") 241) none (.ref 95) .none), #[]⟩
noncomputable def o98 (P : Params) : Obj := ⟨.type "dict", none, .dict #[en P "__module__" 292 (.str (s "vectorcove.values") 241), en P "__firstlineno__" 296 (.int 23 295), en P "__init__" 304 (.ref 96), en P "__static_attributes__" 308 (.ref 97), en P "__dict__" 310 (.ref 100), en P "__weakref__" 312 (.ref 101), en P "__doc__" 313 (.none)] 4, #[]⟩
noncomputable def o99 (_P : Params) : Obj := ⟨.type "type", none, .cls { name := (s "Symbol"), bases := [.type "object"], mro := [.ref 99, .type "object"], ns := 98, qualname := (s "Symbol"), hasDict := true, slotNames := [], subclasses := [], abstract := false, collection := none, hasDel := false }, #[none, none, some (.str (s "Symbol") 285), some (.str (s "Symbol") 293), some (.builtin "object.__new__"), some (.bool true)]⟩
noncomputable def o100 (_P : Params) : Obj := ⟨.type "getset_descriptor", none, .fields #[.str (s "__dict__") 309, .ref 99, .builtin "function.__dict__", .builtin "function.__dict__#set"], #[]⟩
noncomputable def o101 (_P : Params) : Obj := ⟨.type "getset_descriptor", none, .fields #[.str (s "__weakref__") 311, .ref 99, .builtin "ExceptionGroup.__weakref__", .none], #[]⟩
noncomputable def o111 (_P : Params) : Obj := ⟨.type "tuple", none, .seq #[.none] 0, #[]⟩
noncomputable def o117 (_P : Params) : Obj := ⟨.type "code", none, .fields #[.str (s "__init__") 328, .str (s "Call.__init__") 329, .str (s "/claim/cut.py") 330, .int 31 0, .int 4 0, .int 0 0, .int 0 0, .int 3 0, .ref 112, .bool true, .int 181 0, .ref 113, .none, .ref 114, .ref 115, .ref 116, .int 335 0, .int 31 0, .str (s "/claim/cut.py") 336], #[]⟩
noncomputable def o118 (pp : Program) (_P : Params) : Obj := ⟨.type "function", none, .func (fnOf (s "__init__") (s "Call.__init__") (parOf (subIn (stIn pp 7) 0)) (bodOf (subIn (stIn pp 7) 0)) (scoOf (subIn (stIn pp 7) 0)) (.ref 111) (.none) (.none) (.str (s "vectorcove.values") 241) none (.ref 117) .none), #[]⟩
noncomputable def o120 (P : Params) : Obj := ⟨.type "dict", none, .dict #[en P "__module__" 323 (.str (s "vectorcove.values") 241), en P "__firstlineno__" 327 (.int 29 326), en P "__init__" 337 (.ref 118), en P "__static_attributes__" 343 (.ref 119), en P "__dict__" 345 (.ref 122), en P "__weakref__" 347 (.ref 123), en P "__doc__" 348 (.none)] 4, #[]⟩
noncomputable def o121 (_P : Params) : Obj := ⟨.type "type", none, .cls { name := (s "Call"), bases := [.type "object"], mro := [.ref 121, .type "object"], ns := 120, qualname := (s "Call"), hasDict := true, slotNames := [], subclasses := [], abstract := false, collection := none, hasDel := false }, #[none, none, some (.str (s "Call") 316), some (.str (s "Call") 324), some (.builtin "object.__new__"), some (.bool true)]⟩
noncomputable def o122 (_P : Params) : Obj := ⟨.type "getset_descriptor", none, .fields #[.str (s "__dict__") 344, .ref 121, .builtin "function.__dict__", .builtin "function.__dict__#set"], #[]⟩
noncomputable def o123 (_P : Params) : Obj := ⟨.type "getset_descriptor", none, .fields #[.str (s "__weakref__") 346, .ref 121, .builtin "ExceptionGroup.__weakref__", .none], #[]⟩
noncomputable def o126 (_P : Params) : Obj := ⟨.type "tuple", none, .seq #[.int 1 351] 0, #[]⟩
noncomputable def o132 (_P : Params) : Obj := ⟨.type "code", none, .fields #[.str (s "number") 352, .str (s "number") 353, .str (s "/claim/cut.py") 354, .int 37 0, .int 2 0, .int 0 0, .int 0 0, .int 3 0, .ref 127, .bool true, .int 181 0, .ref 128, .none, .ref 129, .ref 130, .ref 131, .int 359 0, .int 37 0, .str (s "/claim/cut.py") 360], #[]⟩
noncomputable def o133 (pp : Program) (_P : Params) : Obj := ⟨.type "function", none, .func (fnOf (s "number") (s "number") (parOf (stIn pp 8)) (bodOf (stIn pp 8)) (scoOf (stIn pp 8)) (.ref 126) (.none) (.none) (.str (s "vectorcove.values") 241) none (.ref 132) .none), #[]⟩
noncomputable def o139 (_P : Params) : Obj := ⟨.type "code", none, .fields #[.str (s "call_of") 362, .str (s "call_of") 363, .str (s "/claim/cut.py") 364, .int 43 0, .int 2 0, .int 0 0, .int 0 0, .int 3 0, .ref 134, .bool true, .int 181 0, .ref 135, .none, .ref 136, .ref 137, .ref 138, .int 368 0, .int 43 0, .str (s "/claim/cut.py") 369], #[]⟩
noncomputable def o140 (pp : Program) (_P : Params) : Obj := ⟨.type "function", none, .func (fnOf (s "call_of") (s "call_of") (parOf (stIn pp 9)) (bodOf (stIn pp 9)) (scoOf (stIn pp 9)) (.none) (.none) (.none) (.str (s "vectorcove.values") 241) none (.ref 139) .none), #[]⟩
noncomputable def o181 (_P : Params) : Obj := ⟨.type "code", none, .fields #[.str (s "same_kernel") 425, .str (s "same_kernel") 426, .str (s "/claim/cut.py") 427, .int 86 0, .int 2 0, .int 0 0, .int 0 0, .int 3 0, .ref 176, .bool true, .int 181 0, .ref 177, .none, .ref 178, .ref 179, .ref 180, .int 432 0, .int 86 0, .str (s "/claim/cut.py") 433], #[]⟩
noncomputable def o182 (pp : Program) (_P : Params) : Obj := ⟨.type "function", none, .func (fnOf (s "same_kernel") (s "same_kernel") (parOf (stIn pp 16)) (bodOf (stIn pp 16)) (scoOf (stIn pp 16)) (.none) (.none) (.none) (.str (s "vectorcove.identical") 371) none (.ref 181) .none), #[]⟩
noncomputable def o202 (_P : Params) : Obj := ⟨.type "code", none, .fields #[.str (s "same_code") 450, .str (s "same_code") 451, .str (s "/claim/cut.py") 452, .int 116 0, .int 2 0, .int 0 0, .int 0 0, .int 3 0, .ref 197, .bool true, .int 181 0, .ref 198, .none, .ref 199, .ref 200, .ref 201, .int 455 0, .int 116 0, .str (s "/claim/cut.py") 456], #[]⟩
noncomputable def o203 (pp : Program) (_P : Params) : Obj := ⟨.type "function", none, .func (fnOf (s "same_code") (s "same_code") (parOf (stIn pp 19)) (bodOf (stIn pp 19)) (scoOf (stIn pp 19)) (.none) (.none) (.none) (.str (s "vectorcove.identical") 371) none (.ref 202) .none), #[]⟩
noncomputable def o244 (_P : Params) : Obj := ⟨.type "code", none, .fields #[.str (s "__init__") 511, .str (s "Terms.__init__") 512, .str (s "/claim/cut.py") 513, .int 157 0, .int 6 0, .int 0 0, .int 0 0, .int 3 0, .ref 239, .bool true, .int 181 0, .ref 240, .none, .ref 241, .ref 242, .ref 243, .int 520 0, .int 157 0, .str (s "/claim/cut.py") 521], #[]⟩
noncomputable def o245 (pp : Program) (_P : Params) : Obj := ⟨.type "function", none, .func (fnOf (s "__init__") (s "Terms.__init__") (parOf (subIn (stIn pp 26) 0)) (bodOf (subIn (stIn pp 26) 0)) (scoOf (subIn (stIn pp 26) 0)) (.none) (.none) (.none) (.str (s "vectorcove.terms") 497) none (.ref 244) .none), #[]⟩
noncomputable def o247 (P : Params) : Obj := ⟨.type "dict", none, .dict #[en P "__module__" 506 (.str (s "vectorcove.terms") 497), en P "__firstlineno__" 510 (.int 155 509), en P "__init__" 522 (.ref 245), en P "__static_attributes__" 528 (.ref 246), en P "__dict__" 530 (.ref 249), en P "__weakref__" 532 (.ref 250), en P "__doc__" 533 (.none)] 4, #[]⟩
noncomputable def o248 (_P : Params) : Obj := ⟨.type "type", none, .cls { name := (s "Terms"), bases := [.type "object"], mro := [.ref 248, .type "object"], ns := 247, qualname := (s "Terms"), hasDict := true, slotNames := [], subclasses := [], abstract := false, collection := none, hasDel := false }, #[none, none, some (.str (s "Terms") 499), some (.str (s "Terms") 507), some (.builtin "object.__new__"), some (.bool true)]⟩
noncomputable def o249 (_P : Params) : Obj := ⟨.type "getset_descriptor", none, .fields #[.str (s "__dict__") 529, .ref 248, .builtin "function.__dict__", .builtin "function.__dict__#set"], #[]⟩
noncomputable def o250 (_P : Params) : Obj := ⟨.type "getset_descriptor", none, .fields #[.str (s "__weakref__") 531, .ref 248, .builtin "ExceptionGroup.__weakref__", .none], #[]⟩
noncomputable def o258 (_P : Params) : Obj := ⟨.type "code", none, .fields #[.str (s "called_name") 536, .str (s "called_name") 537, .str (s "/claim/cut.py") 538, .int 163 0, .int 1 0, .int 0 0, .int 0 0, .int 3 0, .ref 253, .bool true, .int 181 0, .ref 254, .none, .ref 255, .ref 256, .ref 257, .int 540 0, .int 163 0, .str (s "/claim/cut.py") 541], #[]⟩
noncomputable def o259 (pp : Program) (_P : Params) : Obj := ⟨.type "function", none, .func (fnOf (s "called_name") (s "called_name") (parOf (stIn pp 27)) (bodOf (stIn pp 27)) (scoOf (stIn pp 27)) (.none) (.none) (.none) (.str (s "vectorcove.terms") 497) none (.ref 258) .none), #[]⟩
noncomputable def o265 (_P : Params) : Obj := ⟨.type "code", none, .fields #[.str (s "is_formula_call") 543, .str (s "is_formula_call") 544, .str (s "/claim/cut.py") 545, .int 167 0, .int 1 0, .int 0 0, .int 0 0, .int 3 0, .ref 260, .bool true, .int 181 0, .ref 261, .none, .ref 262, .ref 263, .ref 264, .int 547 0, .int 167 0, .str (s "/claim/cut.py") 548], #[]⟩
noncomputable def o266 (pp : Program) (_P : Params) : Obj := ⟨.type "function", none, .func (fnOf (s "is_formula_call") (s "is_formula_call") (parOf (stIn pp 28)) (bodOf (stIn pp 28)) (scoOf (stIn pp 28)) (.none) (.none) (.none) (.str (s "vectorcove.terms") 497) none (.ref 265) .none), #[]⟩
noncomputable def o272 (_P : Params) : Obj := ⟨.type "code", none, .fields #[.str (s "formula_parts") 550, .str (s "formula_parts") 551, .str (s "/claim/cut.py") 552, .int 169 0, .int 1 0, .int 0 0, .int 0 0, .int 3 0, .ref 267, .bool true, .int 181 0, .ref 268, .none, .ref 269, .ref 270, .ref 271, .int 554 0, .int 169 0, .str (s "/claim/cut.py") 555], #[]⟩
noncomputable def o273 (pp : Program) (_P : Params) : Obj := ⟨.type "function", none, .func (fnOf (s "formula_parts") (s "formula_parts") (parOf (stIn pp 29)) (bodOf (stIn pp 29)) (scoOf (stIn pp 29)) (.none) (.none) (.none) (.str (s "vectorcove.terms") 497) none (.ref 272) .none), #[]⟩
noncomputable def o279 (_P : Params) : Obj := ⟨.type "code", none, .fields #[.str (s "constant_whole") 557, .str (s "constant_whole") 558, .str (s "/claim/cut.py") 559, .int 175 0, .int 1 0, .int 0 0, .int 0 0, .int 3 0, .ref 274, .bool true, .int 181 0, .ref 275, .none, .ref 276, .ref 277, .ref 278, .int 562 0, .int 175 0, .str (s "/claim/cut.py") 563], #[]⟩
noncomputable def o280 (pp : Program) (_P : Params) : Obj := ⟨.type "function", none, .func (fnOf (s "constant_whole") (s "constant_whole") (parOf (stIn pp 30)) (bodOf (stIn pp 30)) (scoOf (stIn pp 30)) (.none) (.none) (.none) (.str (s "vectorcove.terms") 497) none (.ref 279) .none), #[]⟩
noncomputable def o286 (_P : Params) : Obj := ⟨.type "code", none, .fields #[.str (s "union") 565, .str (s "union") 566, .str (s "/claim/cut.py") 567, .int 183 0, .int 2 0, .int 0 0, .int 0 0, .int 3 0, .ref 281, .bool true, .int 181 0, .ref 282, .none, .ref 283, .ref 284, .ref 285, .int 572 0, .int 183 0, .str (s "/claim/cut.py") 573], #[]⟩
noncomputable def o287 (pp : Program) (_P : Params) : Obj := ⟨.type "function", none, .func (fnOf (s "union") (s "union") (parOf (stIn pp 31)) (bodOf (stIn pp 31)) (scoOf (stIn pp 31)) (.none) (.none) (.none) (.str (s "vectorcove.terms") 497) none (.ref 286) .none), #[]⟩
noncomputable def o293 (_P : Params) : Obj := ⟨.type "code", none, .fields #[.str (s "crossed") 575, .str (s "crossed") 576, .str (s "/claim/cut.py") 577, .int 189 0, .int 2 0, .int 0 0, .int 0 0, .int 3 0, .ref 288, .bool true, .int 181 0, .ref 289, .none, .ref 290, .ref 291, .ref 292, .int 583 0, .int 189 0, .str (s "/claim/cut.py") 584], #[]⟩
noncomputable def o294 (pp : Program) (_P : Params) : Obj := ⟨.type "function", none, .func (fnOf (s "crossed") (s "crossed") (parOf (stIn pp 32)) (bodOf (stIn pp 32)) (scoOf (stIn pp 32)) (.none) (.none) (.none) (.str (s "vectorcove.terms") 497) none (.ref 293) .none), #[]⟩
noncomputable def o300 (_P : Params) : Obj := ⟨.type "code", none, .fields #[.str (s "joined") 586, .str (s "joined") 587, .str (s "/claim/cut.py") 588, .int 196 0, .int 1 0, .int 0 0, .int 0 0, .int 3 0, .ref 295, .bool true, .int 181 0, .ref 296, .none, .ref 297, .ref 298, .ref 299, .int 592 0, .int 196 0, .str (s "/claim/cut.py") 593], #[]⟩
noncomputable def o301 (pp : Program) (_P : Params) : Obj := ⟨.type "function", none, .func (fnOf (s "joined") (s "joined") (parOf (stIn pp 33)) (bodOf (stIn pp 33)) (scoOf (stIn pp 33)) (.none) (.none) (.none) (.str (s "vectorcove.terms") 497) none (.ref 300) .none), #[]⟩
noncomputable def o307 (_P : Params) : Obj := ⟨.type "code", none, .fields #[.str (s "members") 595, .str (s "members") 596, .str (s "/claim/cut.py") 597, .int 201 0, .int 1 0, .int 0 0, .int 0 0, .int 3 0, .ref 302, .bool true, .int 181 0, .ref 303, .none, .ref 304, .ref 305, .ref 306, .int 601 0, .int 201 0, .str (s "/claim/cut.py") 602], #[]⟩
noncomputable def o308 (pp : Program) (_P : Params) : Obj := ⟨.type "function", none, .func (fnOf (s "members") (s "members") (parOf (stIn pp 34)) (bodOf (stIn pp 34)) (scoOf (stIn pp 34)) (.none) (.none) (.none) (.str (s "vectorcove.terms") 497) none (.ref 307) .none), #[]⟩
noncomputable def o314 (_P : Params) : Obj := ⟨.type "code", none, .fields #[.str (s "by_degree") 604, .str (s "by_degree") 605, .str (s "/claim/cut.py") 606, .int 210 0, .int 1 0, .int 0 0, .int 0 0, .int 3 0, .ref 309, .bool true, .int 181 0, .ref 310, .none, .ref 311, .ref 312, .ref 313, .int 611 0, .int 210 0, .str (s "/claim/cut.py") 612], #[]⟩
noncomputable def o315 (pp : Program) (_P : Params) : Obj := ⟨.type "function", none, .func (fnOf (s "by_degree") (s "by_degree") (parOf (stIn pp 35)) (bodOf (stIn pp 35)) (scoOf (stIn pp 35)) (.none) (.none) (.none) (.str (s "vectorcove.terms") 497) none (.ref 314) .none), #[]⟩
noncomputable def o328 (_P : Params) : Obj := ⟨.type "code", none, .fields #[.str (s "__init__") 626, .str (s "TermReader.__init__") 627, .str (s "/claim/cut.py") 628, .int 221 0, .int 3 0, .int 0 0, .int 0 0, .int 3 0, .ref 323, .bool true, .int 181 0, .ref 324, .none, .ref 325, .ref 326, .ref 327, .int 632 0, .int 221 0, .str (s "/claim/cut.py") 633], #[]⟩
noncomputable def o329 (pp : Program) (_P : Params) : Obj := ⟨.type "function", none, .func (fnOf (s "__init__") (s "TermReader.__init__") (parOf (subIn (stIn pp 36) 0)) (bodOf (subIn (stIn pp 36) 0)) (scoOf (subIn (stIn pp 36) 0)) (.none) (.none) (.none) (.str (s "vectorcove.terms") 497) none (.ref 328) .none), #[]⟩
noncomputable def o335 (_P : Params) : Obj := ⟨.type "code", none, .fields #[.str (s "variable") 635, .str (s "TermReader.variable") 636, .str (s "/claim/cut.py") 637, .int 228 0, .int 2 0, .int 0 0, .int 0 0, .int 3 0, .ref 330, .bool true, .int 181 0, .ref 331, .none, .ref 332, .ref 333, .ref 334, .int 641 0, .int 228 0, .str (s "/claim/cut.py") 642], #[]⟩
noncomputable def o336 (pp : Program) (_P : Params) : Obj := ⟨.type "function", none, .func (fnOf (s "variable") (s "TermReader.variable") (parOf (subIn (stIn pp 36) 1)) (bodOf (subIn (stIn pp 36) 1)) (scoOf (subIn (stIn pp 36) 1)) (.none) (.none) (.none) (.str (s "vectorcove.terms") 497) none (.ref 335) .none), #[]⟩
noncomputable def o342 (_P : Params) : Obj := ⟨.type "code", none, .fields #[.str (s "constant") 644, .str (s "TermReader.constant") 645, .str (s "/claim/cut.py") 646, .int 235 0, .int 2 0, .int 0 0, .int 0 0, .int 3 0, .ref 337, .bool true, .int 181 0, .ref 338, .none, .ref 339, .ref 340, .ref 341, .int 649 0, .int 235 0, .str (s "/claim/cut.py") 650], #[]⟩
noncomputable def o343 (pp : Program) (_P : Params) : Obj := ⟨.type "function", none, .func (fnOf (s "constant") (s "TermReader.constant") (parOf (subIn (stIn pp 36) 2)) (bodOf (subIn (stIn pp 36) 2)) (scoOf (subIn (stIn pp 36) 2)) (.none) (.none) (.none) (.str (s "vectorcove.terms") 497) none (.ref 342) .none), #[]⟩
noncomputable def o354 (_P : Params) : Obj := ⟨.type "code", none, .fields #[.str (s "taken_away") 662, .str (s "TermReader.taken_away") 663, .str (s "/claim/cut.py") 664, .int 251 0, .int 3 0, .int 0 0, .int 0 0, .int 3 0, .ref 351, .bool true, .int 181 0, .ref 352, .none, .none, .none, .ref 353, .int 665 0, .int 251 0, .str (s "/claim/cut.py") 666], #[]⟩
noncomputable def o355 (pp : Program) (_P : Params) : Obj := ⟨.type "function", none, .func (fnOf (s "taken_away") (s "TermReader.taken_away") (parOf (subIn (stIn pp 36) 4)) (bodOf (subIn (stIn pp 36) 4)) (scoOf (subIn (stIn pp 36) 4)) (.none) (.none) (.none) (.str (s "vectorcove.terms") 497) none (.ref 354) .none), #[]⟩
noncomputable def o361 (_P : Params) : Obj := ⟨.type "code", none, .fields #[.str (s "power") 668, .str (s "TermReader.power") 669, .str (s "/claim/cut.py") 670, .int 258 0, .int 2 0, .int 0 0, .int 0 0, .int 3 0, .ref 356, .bool true, .int 181 0, .ref 357, .none, .ref 358, .ref 359, .ref 360, .int 677 0, .int 258 0, .str (s "/claim/cut.py") 678], #[]⟩
noncomputable def o362 (pp : Program) (_P : Params) : Obj := ⟨.type "function", none, .func (fnOf (s "power") (s "TermReader.power") (parOf (subIn (stIn pp 36) 5)) (bodOf (subIn (stIn pp 36) 5)) (scoOf (subIn (stIn pp 36) 5)) (.none) (.none) (.none) (.str (s "vectorcove.terms") 497) none (.ref 361) .none), #[]⟩
noncomputable def o368 (_P : Params) : Obj := ⟨.type "code", none, .fields #[.str (s "operator") 680, .str (s "TermReader.operator") 681, .str (s "/claim/cut.py") 682, .int 268 0, .int 3 0, .int 0 0, .int 0 0, .int 3 0, .ref 363, .bool true, .int 181 0, .ref 364, .none, .ref 365, .ref 366, .ref 367, .int 690 0, .int 268 0, .str (s "/claim/cut.py") 691], #[]⟩
noncomputable def o369 (pp : Program) (_P : Params) : Obj := ⟨.type "function", none, .func (fnOf (s "operator") (s "TermReader.operator") (parOf (subIn (stIn pp 36) 6)) (bodOf (subIn (stIn pp 36) 6)) (scoOf (subIn (stIn pp 36) 6)) (.none) (.none) (.none) (.str (s "vectorcove.terms") 497) none (.ref 368) .none), #[]⟩
noncomputable def o375 (_P : Params) : Obj := ⟨.type "code", none, .fields #[.str (s "read") 693, .str (s "TermReader.read") 694, .str (s "/claim/cut.py") 695, .int 288 0, .int 2 0, .int 0 0, .int 0 0, .int 3 0, .ref 370, .bool true, .int 181 0, .ref 371, .none, .ref 372, .ref 373, .ref 374, .int 701 0, .int 288 0, .str (s "/claim/cut.py") 702], #[]⟩
noncomputable def o376 (pp : Program) (_P : Params) : Obj := ⟨.type "function", none, .func (fnOf (s "read") (s "TermReader.read") (parOf (subIn (stIn pp 36) 7)) (bodOf (subIn (stIn pp 36) 7)) (scoOf (subIn (stIn pp 36) 7)) (.none) (.none) (.none) (.str (s "vectorcove.terms") 497) none (.ref 375) .none), #[]⟩
noncomputable def o378 (P : Params) : Obj := ⟨.type "dict", none, .dict #[en P "__module__" 621 (.str (s "vectorcove.terms") 497), en P "__firstlineno__" 625 (.int 219 624), en P "__init__" 634 (.ref 329), en P "variable" 643 (.ref 336), en P "constant" 651 (.ref 343), en P "all_others" 661 (.ref 350), en P "taken_away" 667 (.ref 355), en P "power" 679 (.ref 362), en P "operator" 692 (.ref 369), en P "read" 703 (.ref 376), en P "__static_attributes__" 709 (.ref 377), en P "__dict__" 711 (.ref 380), en P "__weakref__" 713 (.ref 381), en P "__doc__" 714 (.none)] 4, #[]⟩
noncomputable def o379 (_P : Params) : Obj := ⟨.type "type", none, .cls { name := (s "TermReader"), bases := [.type "object"], mro := [.ref 379, .type "object"], ns := 378, qualname := (s "TermReader"), hasDict := true, slotNames := [], subclasses := [], abstract := false, collection := none, hasDel := false }, #[none, none, some (.str (s "TermReader") 614), some (.str (s "TermReader") 622), some (.builtin "object.__new__"), some (.bool true)]⟩
noncomputable def o380 (_P : Params) : Obj := ⟨.type "getset_descriptor", none, .fields #[.str (s "__dict__") 710, .ref 379, .builtin "function.__dict__", .builtin "function.__dict__#set"], #[]⟩
noncomputable def o381 (_P : Params) : Obj := ⟨.type "getset_descriptor", none, .fields #[.str (s "__weakref__") 712, .ref 379, .builtin "ExceptionGroup.__weakref__", .none], #[]⟩
noncomputable def o384 (_P : Params) : Obj := ⟨.type "tuple", none, .seq #[.none] 0, #[]⟩
noncomputable def o388 (_P : Params) : Obj := ⟨.type "code", none, .fields #[.str (s "expand") 717, .str (s "expand") 718, .str (s "/claim/cut.py") 719, .int 309 0, .int 2 0, .int 0 0, .int 0 0, .int 3 0, .ref 385, .bool true, .int 181 0, .ref 386, .none, .none, .none, .ref 387, .int 720 0, .int 309 0, .str (s "/claim/cut.py") 721], #[]⟩
noncomputable def o389 (pp : Program) (_P : Params) : Obj := ⟨.type "function", none, .func (fnOf (s "expand") (s "expand") (parOf (stIn pp 37)) (bodOf (stIn pp 37)) (scoOf (stIn pp 37)) (.ref 384) (.none) (.none) (.str (s "vectorcove.terms") 497) none (.ref 388) .none), #[]⟩
noncomputable def o395 (_P : Params) : Obj := ⟨.type "code", none, .fields #[.str (s "term_language") 723, .str (s "term_language") 724, .str (s "/claim/cut.py") 725, .int 332 0, .int 2 0, .int 0 0, .int 0 0, .int 3 0, .ref 390, .bool true, .int 181 0, .ref 391, .none, .ref 392, .ref 393, .ref 394, .int 730 0, .int 332 0, .str (s "/claim/cut.py") 731], #[]⟩
noncomputable def o396 (pp : Program) (_P : Params) : Obj := ⟨.type "function", none, .func (fnOf (s "term_language") (s "term_language") (parOf (stIn pp 38)) (bodOf (stIn pp 38)) (scoOf (stIn pp 38)) (.none) (.none) (.none) (.str (s "vectorcove.terms") 497) none (.ref 395) .none), #[]⟩
noncomputable def o400 (_P : Params) : Obj := ⟨.type "code", none, .fields #[.str (s "right_side") 733, .str (s "right_side") 734, .str (s "/claim/cut.py") 735, .int 337 0, .int 1 0, .int 0 0, .int 0 0, .int 3 0, .ref 397, .bool true, .int 181 0, .ref 398, .none, .none, .none, .ref 399, .int 736 0, .int 337 0, .str (s "/claim/cut.py") 737], #[]⟩
noncomputable def o401 (pp : Program) (_P : Params) : Obj := ⟨.type "function", none, .func (fnOf (s "right_side") (s "right_side") (parOf (stIn pp 39)) (bodOf (stIn pp 39)) (scoOf (stIn pp 39)) (.none) (.none) (.none) (.str (s "vectorcove.terms") 497) none (.ref 400) .none), #[]⟩
noncomputable def o407 (_P : Params) : Obj := ⟨.type "code", none, .fields #[.str (s "formula_of") 739, .str (s "formula_of") 740, .str (s "/claim/cut.py") 741, .int 351 0, .int 1 0, .int 0 0, .int 0 0, .int 3 0, .ref 402, .bool true, .int 181 0, .ref 403, .none, .ref 404, .ref 405, .ref 406, .int 743 0, .int 351 0, .str (s "/claim/cut.py") 744], #[]⟩
noncomputable def o408 (pp : Program) (_P : Params) : Obj := ⟨.type "function", none, .func (fnOf (s "formula_of") (s "formula_of") (parOf (stIn pp 40)) (bodOf (stIn pp 40)) (scoOf (stIn pp 40)) (.none) (.none) (.none) (.str (s "vectorcove.terms") 497) none (.ref 407) .none), #[]⟩
noncomputable def o414 (_P : Params) : Obj := ⟨.type "code", none, .fields #[.str (s "_law_figure") 748, .str (s "_law_figure") 749, .str (s "/claim/cut.py") 750, .int 356 0, .int 3 0, .int 0 0, .int 0 0, .int 3 0, .ref 409, .bool true, .int 181 0, .ref 410, .none, .ref 411, .ref 412, .ref 413, .int 754 0, .int 356 0, .str (s "/claim/cut.py") 755], #[]⟩
noncomputable def o415 (pp : Program) (_P : Params) : Obj := ⟨.type "function", none, .func (fnOf (s "_law_figure") (s "_law_figure") (parOf (stIn pp 42)) (bodOf (stIn pp 42)) (scoOf (stIn pp 42)) (.none) (.none) (.none) (.str (s "law_ov0071_01") 746) none (.ref 414) .none), #[]⟩
noncomputable def o421 (_P : Params) : Obj := ⟨.type "code", none, .fields #[.str (s "_law_side") 757, .str (s "_law_side") 758, .str (s "/claim/cut.py") 759, .int 360 0, .int 2 0, .int 0 0, .int 0 0, .int 3 0, .ref 416, .bool true, .int 181 0, .ref 417, .none, .ref 418, .ref 419, .ref 420, .int 765 0, .int 360 0, .str (s "/claim/cut.py") 766], #[]⟩
noncomputable def o422 (pp : Program) (_P : Params) : Obj := ⟨.type "function", none, .func (fnOf (s "_law_side") (s "_law_side") (parOf (stIn pp 43)) (bodOf (stIn pp 43)) (scoOf (stIn pp 43)) (.none) (.none) (.none) (.str (s "law_ov0071_01") 746) none (.ref 421) .none), #[]⟩
noncomputable def o428 (_P : Params) : Obj := ⟨.type "code", none, .fields #[.str (s "_law_two") 768, .str (s "_law_two") 769, .str (s "/claim/cut.py") 770, .int 369 0, .int 3 0, .int 0 0, .int 0 0, .int 3 0, .ref 423, .bool true, .int 181 0, .ref 424, .none, .ref 425, .ref 426, .ref 427, .int 774 0, .int 369 0, .str (s "/claim/cut.py") 775], #[]⟩
noncomputable def o429 (pp : Program) (_P : Params) : Obj := ⟨.type "function", none, .func (fnOf (s "_law_two") (s "_law_two") (parOf (stIn pp 44)) (bodOf (stIn pp 44)) (scoOf (stIn pp 44)) (.none) (.none) (.none) (.str (s "law_ov0071_01") 746) none (.ref 428) .none), #[]⟩
noncomputable def o433 (_P : Params) : Obj := ⟨.type "code", none, .fields #[.str (s "_law_row") 777, .str (s "_law_row") 778, .str (s "/claim/cut.py") 779, .int 371 0, .int 1 0, .int 0 0, .int 0 0, .int 3 0, .ref 430, .bool true, .int 181 0, .ref 431, .none, .none, .none, .ref 432, .int 780 0, .int 371 0, .str (s "/claim/cut.py") 781], #[]⟩
noncomputable def o434 (pp : Program) (_P : Params) : Obj := ⟨.type "function", none, .func (fnOf (s "_law_row") (s "_law_row") (parOf (stIn pp 45)) (bodOf (stIn pp 45)) (scoOf (stIn pp 45)) (.none) (.none) (.none) (.str (s "law_ov0071_01") 746) none (.ref 433) .none), #[]⟩
noncomputable def o440 (_P : Params) : Obj := ⟨.type "code", none, .fields #[.str (s "_law_same") 783, .str (s "_law_same") 784, .str (s "/claim/cut.py") 785, .int 374 0, .int 2 0, .int 0 0, .int 0 0, .int 3 0, .ref 435, .bool true, .int 181 0, .ref 436, .none, .ref 437, .ref 438, .ref 439, .int 788 0, .int 374 0, .str (s "/claim/cut.py") 789], #[]⟩
noncomputable def o441 (pp : Program) (_P : Params) : Obj := ⟨.type "function", none, .func (fnOf (s "_law_same") (s "_law_same") (parOf (stIn pp 46)) (bodOf (stIn pp 46)) (scoOf (stIn pp 46)) (.none) (.none) (.none) (.str (s "law_ov0071_01") 746) none (.ref 440) .none), #[]⟩
noncomputable def KG (pp : Program) (P : Params) : Frag := [(2, o2 P), (3, o3 P), (61, o61 P), (67, o67 P), (68, o68 pp P), (77, o77 P), (78, o78 P), (79, o79 P), (80, o80 P), (95, o95 P), (96, o96 pp P), (98, o98 P), (99, o99 P), (100, o100 P), (101, o101 P), (111, o111 P), (117, o117 P), (118, o118 pp P), (120, o120 P), (121, o121 P), (122, o122 P), (123, o123 P), (126, o126 P), (132, o132 P), (133, o133 pp P), (139, o139 P), (140, o140 pp P), (181, o181 P), (182, o182 pp P), (202, o202 P), (203, o203 pp P), (244, o244 P), (245, o245 pp P), (247, o247 P), (248, o248 P), (249, o249 P), (250, o250 P), (258, o258 P), (259, o259 pp P), (265, o265 P), (266, o266 pp P), (272, o272 P), (273, o273 pp P), (279, o279 P), (280, o280 pp P), (286, o286 P), (287, o287 pp P), (293, o293 P), (294, o294 pp P), (300, o300 P), (301, o301 pp P), (307, o307 P), (308, o308 pp P), (314, o314 P), (315, o315 pp P), (328, o328 P), (329, o329 pp P), (335, o335 P), (336, o336 pp P), (342, o342 P), (343, o343 pp P), (354, o354 P), (355, o355 pp P), (361, o361 P), (362, o362 pp P), (368, o368 P), (369, o369 pp P), (375, o375 P), (376, o376 pp P), (378, o378 P), (379, o379 P), (380, o380 P), (381, o381 P), (384, o384 P), (388, o388 P), (389, o389 pp P), (395, o395 P), (396, o396 pp P), (400, o400 P), (401, o401 pp P), (407, o407 P), (408, o408 pp P), (414, o414 P), (415, o415 pp P), (421, o421 P), (422, o422 pp P), (428, o428 P), (429, o429 pp P), (433, o433 P), (434, o434 pp P), (440, o440 P), (441, o441 pp P)]
noncomputable def KA : List Addr := [2, 3, 61, 67, 68, 77, 78, 79, 80, 95, 96, 98, 99, 100, 101, 111, 117, 118, 120, 121, 122, 123, 126, 132, 133, 139, 140, 181, 182, 202, 203, 244, 245, 247, 248, 249, 250, 258, 259, 265, 266, 272, 273, 279, 280, 286, 287, 293, 294, 300, 301, 307, 308, 314, 315, 328, 329, 335, 336, 342, 343, 354, 355, 361, 362, 368, 369, 375, 376, 378, 379, 380, 381, 384, 388, 389, 395, 396, 400, 401, 407, 408, 414, 415, 421, 422, 428, 429, 433, 434, 440, 441]
noncomputable def bootT (P : Params) : BT := (.node (boot_o_0 P) (.node (boot_o_1 P) (.node (boot_o_3 P) (.node (boot_o_7 P) .nil .nil) .nil) (.node (boot_o_5 P) (.node (boot_o_9 P) .nil .nil) .nil)) (.node (boot_o_2 P) (.node (boot_o_4 P) (.node (boot_o_8 P) .nil .nil) .nil) (.node (boot_o_6 P) (.node (boot_o_10 P) .nil .nil) .nil)))

noncomputable def KF : Params → Frag := KG P0
noncomputable def Q0 : Program := { P0 with main := { P0.main with body := [stIn P0 47] } }
noncomputable def lawD : DefRec := ⟨s "law", parOf (stIn P0 47), bodOf (stIn P0 47), scoOf (stIn P0 47), posOf (stIn P0 47)⟩
noncomputable def runT (ok : Thread → Bool) (stp : SharedT → Thread → Option (SharedT × Thread)) : Nat → SharedT → Thread → Option SharedT
  | 0, _, _ => none
  | n + 1, s, t => match through t with
    | true => some s
    | false => match ok t with
      | false => none
      | true => match stp s t with
        | some r => runT ok stp n r.1 r.2
        | none => none
theorem runT_spec {p : Program} {w : World} {n₀ : Nat} {ann : Option Value} : ∀ (n : Nat) (s r : SharedT) (t : Thread), runT (stepOk n₀ ann) (stepT (denote treeTable) p w) n s t = some r →
    topRun treeTable p w n₀ ann n s.abs t = some r.abs
  | 0, _, _, _, h => by cases h
  | n + 1, s, r, t, h => by
    unfold runT at h
    unfold topRun
    cases ht : through t with
    | true => rw [ht] at h; cases h; rfl
    | false =>
      rw [ht] at h
      cases hk : stepOk n₀ ann t with
      | false => rw [hk] at h; cases h
      | true =>
        rw [hk] at h
        cases hs : stepT (denote treeTable) p w s t with
        | none => rw [hs] at h; cases h
        | some x =>
          rw [hs] at h
          obtain ⟨s', t'⟩ := x
          dsimp only at h ⊢
          rw [stepT_spec hs]
          exact runT_spec n s' r t' h

theorem left_of_T {p q : Program} {loose : List Str} {Xt : Shared → Bool} {α : Type} {Yf : Shared → α} {Ya : World → α} {N : Nat} {g0 : Bool} {m₀ : Nat} {ann : Option Value}
    (open_ : ∀ w : World, (fencedOpening treeTable p w N).map (fun s => (s.heap, s.gens, s.drawn, s.toks)) = some (boot_heap w.params, Array.mk [], boot_drawn, boot_toks))
    (size : ∀ w : World, ((boot_heap w.params).isNs mainGlobals && (Array.mk [] : Array GenState).size == 0, (boot_heap w.params).objs.size, (boot_heap w.params).nsMap mainGlobals "__annotations__") = (true, m₀, ann))
    (run : ∀ (w : World) (os : OsState), (runT (stepOk m₀ ann) (stepT (denote treeTable) p w) N ⟨bootT w.params, 11, (boot_heap w.params).life, Array.mk [], boot_drawn, boot_toks, os⟩ (topStub p)).map
        (fun r => ((staticsOk (importedModules p.main.body) (boot_heap w.params) r.abs.heap && namesBound p r.abs.heap && gensDone r.abs && laidKept (boot_heap w.params) r.abs.heap), openSeen q loose (importedModules p.main.body) Xt g0 r.abs, Yf r.abs)) =
      some (true, openGood q loose, Ya w)) : LeftO p q loose Xt Yf Ya N g0 := fun w => by
  obtain ⟨⟨h, gs, d, k, os⟩, e, e'⟩ := Option.map_eq_some_iff.mp (open_ w)
  obtain ⟨rfl, rfl, rfl, rfl⟩ : h = boot_heap w.params ∧ gs = Array.mk [] ∧ d = boot_drawn ∧ k = boot_toks := by simpa using e'
  obtain ⟨z1, z2, z3⟩ : _ ∧ _ ∧ _ := by simpa only [Prod.mk.injEq] using size w
  obtain ⟨r, er, l⟩ := Option.map_eq_some_iff.mp (run w os)
  obtain ⟨l1, l2, l3⟩ : _ ∧ _ ∧ _ := by simpa only [Prod.mk.injEq] using l
  have tr := runT_spec _ _ _ _ er
  have eb : SharedT.abs ⟨bootT w.params, 11, (boot_heap w.params).life, Array.mk [], boot_drawn, boot_toks, os⟩ = ⟨boot_heap w.params, Array.mk [], boot_drawn, boot_toks, os⟩ := rfl
  rw [eb] at tr
  have t : topFrom treeTable p w N ⟨boot_heap w.params, Array.mk [], boot_drawn, boot_toks, os⟩ = some r.abs := by
    unfold topFrom
    dsimp only
    rw [z1, z2, z3, tr]
    show (match staticsOk (importedModules p.main.body) (boot_heap w.params) r.abs.heap && namesBound p r.abs.heap && gensDone r.abs && laidKept (boot_heap w.params) r.abs.heap with | true => _ | false => _) = _
    rw [l1]
  unfold openEnds
  rw [e]
  show (topFrom treeTable p w N _).map _ = _
  rw [t]
  exact congrArg some (Prod.ext l2 l3)
set_option maxHeartbeats 400000
noncomputable def QG (p : Program) : Program := { p with main := { p.main with body := [stIn p 47] } }
noncomputable def looseV : List Str := [s "_wall", s "CoveError", s "Refusal", s "Vector", s "Symbol", s "Call", s "number", s "call_of", s "same_attrs", s "same_items", s "same_formals", s "same_slots", s "same_dots", s "same_kernel", s "identical", s "names_items", s "same_code", s "children", s "add_names", s "all_names", s "all_vars", s "Terms", s "called_name", s "is_formula_call", s "formula_parts", s "constant_whole", s "union", s "crossed", s "joined", s "members", s "by_degree", s "TermReader", s "expand", s "term_language", s "right_side", s "formula_of", s "_law_figure", s "_law_side", s "_law_two", s "_law_row", s "_law_same"]

noncomputable abbrev Led := List (Addr × Obj)
noncomputable abbrev Loc := Str → Option Value
structure Fx where
  dp : Nat
  un : Nat
  gd : Option (List Code)
  outer : List Env
  A₀ : Around
  base : Heap
  h₀ : Heap
  L : Addr
  cl : List (Str × Addr)
structure Fn where
  cn : Str
  cs : Scope
  a : Addr
  cd : Value
noncomputable def Fx.env (c : Fx) (f : Fn) : Env := envX f.cn f.cs c.L f.a f.cd c.cl
noncomputable def Fx.A (c : Fx) (f : Fn) : Around := { handled := none, depth := c.dp, frames := some (c.env f :: c.outer), guards := c.gd, units := c.un }
structure Fx.Ok (c : Fx) (w : World) : Prop where
  B : Below c.A₀ c.base c.outer c.h₀
  X : (KF w.params).In c.h₀
  T : ∃ mg mb, TopRead (QG P0) looseV mg mb c.h₀
noncomputable def Off (N M : Led) : Prop := ∀ p ∈ N, ∀ q ∈ M, p.1 ≠ q.1
theorem Off.nil (N : Led) : Off N [] := fun _ _ _ h => nomatch h
theorem Off.sub {N N' M : Led} (h : Off N M) (k : ∀ p ∈ N', p ∈ N) : Off N' M := fun p hp => h p (k p hp)
theorem Off.cons {N M : Led} {a : Addr} {o : Obj} (h : Off N M) (k : ∀ p ∈ N ++ M, p.1 < a) : Off ((a, o) :: N) M := fun p hp q hq => by
  rcases List.mem_cons.mp hp with rfl | hp
  · exact Nat.ne_of_gt (k q (List.mem_append_right _ hq))
  · exact h p hp q hq

noncomputable def Sat {α : Type} (w : World) (c : Fx) (f : Fn) (t : Sem α) (m : Loc) (N : Led) (Q : α → Loc → Led → Prop) : Prop :=
  ∀ (s : Shared) (M : Led) (R : α → Shared → Prop), Fr c.h₀ c.L s.heap m → News c.h₀ c.L s.heap (N ++ M) → Off N M →
    (∀ a m' N' h' tk', Q a m' N' → Fr c.h₀ c.L h' m' → News c.h₀ c.L h' (N' ++ M) → Off N' M → R a { s with heap := h', toks := tk' }) →
    wpAny (model P0 w) (c.A f) t R (fun _ _ => False) s

section
variable {α β : Type} {w : World} {c : Fx} {f : Fn} {m : Loc} {N : Led} {env : Env}
theorem sat_pure {a : α} {Q : α → Loc → Led → Prop} (h : Q a m N) : Sat w c f (pure a) m N Q := fun _ _ _ F N O hR => wpAny_pure (hR _ _ _ _ _ h F N O)
theorem sat_mono {t : Sem α} {Q Q' : α → Loc → Led → Prop} (h : Sat w c f t m N Q) (k : ∀ a m' N', Q a m' N' → Q' a m' N') : Sat w c f t m N Q' :=
  fun s M R F N' O hR => h s M R F N' O fun a m' N'' h' tk' q => hR a m' N'' h' tk' (k _ _ _ q)
/-- two steps one after the other, by a rule of the library -/
theorem sat_seq {t : Sem β} {t₁ : Sem α} {t₂ : α → Sem β} {Q : β → Loc → Led → Prop}
    (rule : ∀ (s : Shared) (R : β → Shared → Prop), wpAny (model P0 w) (c.A f) t₁ (fun a s₁ => wpAny (model P0 w) (c.A f) (t₂ a) R (fun _ _ => False) s₁) (fun _ _ => False) s → wpAny (model P0 w) (c.A f) t R (fun _ _ => False) s)
    (h : Sat w c f t₁ m N fun a m' N' => Sat w c f (t₂ a) m' N' Q) : Sat w c f t m N Q :=
  fun s M R F N O hR => rule s R (h s M _ F N O fun _ _ _ _ _ q F' N' O' => q _ M R F' N' O' hR)
theorem sat_bind {t : Sem α} {k : α → Sem β} {Q : β → Loc → Led → Prop} (h : Sat w c f t m N fun a m' N' => Sat w c f (k a) m' N' Q) : Sat w c f (t >>= k) m N Q :=
  sat_seq (fun _ _ h => wpAny_bind h) h
/-- less is known -/
theorem sat_weak {t : Sem α} {N₁ : Led} {Q : α → Loc → Led → Prop} (k : ∀ p ∈ N₁, p ∈ N) (h : Sat w c f t m N₁ Q) : Sat w c f t m N Q :=
  fun s M R F N' O hR => h s M R F (fun p hp => N' p ((List.mem_append.mp hp).elim (fun q => List.mem_append_left _ (k p q)) fun q => List.mem_append_right _ q)) (O.sub k) hR
/-- a frame rule -/
theorem sat_frame {t : Sem α} {G : Led} {Q : α → Loc → Led → Prop} (o : Off N G) (h : Sat w c f t m N fun a m' N' => Off N' G → Q a m' (N' ++ G)) : Sat w c f t m (N ++ G) Q := by
  intro s M R F N' O hR
  refine h s (G ++ M) R F (by rw [← List.append_assoc]; exact N') (fun p hp q hq => ?_) fun a m' N₂ h' tk' q F' N₂' O' => ?_
  · rcases List.mem_append.mp hq with hq | hq
    · exact o p hp q hq
    · exact O p (List.mem_append_left _ hp) q hq
  · have o2 : Off N₂ G := fun p hp q hq => O' p hp q (List.mem_append_left _ hq)
    refine hR a m' (N₂ ++ G) h' tk' (q o2) F' (by rw [List.append_assoc]; exact N₂') fun p hp r hr => ?_
    rcases List.mem_append.mp hp with hp | hp
    · exact O' p hp r (List.mem_append_right _ hr)
    · exact O p (List.mem_append_right _ hp) r hr
/-- the made objects hold nothing of h₀ and are no frame: at hand where a rule asks -/
theorem sat_lift {t : Sem α} {Q : α → Loc → Led → Prop}
    (h : c.Ok w → Sat w c f t m N Q) (hc : c.Ok w) : Sat w c f t m N Q := h hc

-- statements
theorem sat_nil {Q : Flow → Loc → Led → Prop} (h : Q .next m N) : Sat w c f (execs [] env) m N Q := fun _ _ _ F N O hR => wpAny_execs_nil (hR _ _ _ _ _ h F N O)
theorem sat_cons {st : Stmt} {rest : List Stmt} {Q : Flow → Loc → Led → Prop}
    (h : Sat w c f (exec st env) m N fun fl m' N' => match fl with | .next => Sat w c f (execs rest env) m' N' Q | fl => Q fl m' N') : Sat w c f (execs (st :: rest) env) m N Q :=
  fun s M R F N O hR => wpAny_execs_cons (h s M _ F N O fun fl m' N' h' tk' q F' N'' O' => by
    cases fl with
    | next => exact q _ M R F' N'' O' hR
    | brk => exact hR _ _ _ _ _ q F' N'' O'
    | cont => exact hR _ _ _ _ _ q F' N'' O'
    | ret v => exact hR _ _ _ _ _ q F' N'' O')
theorem sat_if {test : Expr} {body orelse : List Stmt} {pos : Pos} {Q : Flow → Loc → Led → Prop}
    (h : Sat w c f (isTrue test env (eval test env)) m N fun b m' N' => if b = true then Sat w c f (execs body env) m' N' Q else Sat w c f (execs orelse env) m' N' Q) :
    Sat w c f (exec (.If test body orelse pos) env) m N Q :=
  fun s M R F N O hR => wpAny_If (h s M _ F N O fun b m' N' h' tk' q F' N'' O' => by
    cases b with
    | true => exact q _ M R F' N'' O' hR
    | false => exact q _ M R F' N'' O' hR)
theorem sat_ret {e : Expr} {pos : Pos} {Q : Flow → Loc → Led → Prop} (h : Sat w c f (eval e env) m N fun v m' N' => Q (.ret v) m' N') : Sat w c f (exec (.Return (some e) pos) env) m N Q :=
  fun s M R F N O hR => wpAny_Return_some (h s M _ F N O fun _ _ _ _ _ q F' N' O' => hR _ _ _ _ _ q F' N' O')
theorem sat_assign {x : Str} {pos' pos : Pos} {value : Expr} {Q : Flow → Loc → Led → Prop}
    (h : Sat w c f (eval value env) m N fun v m' N' => Sat w c f (storeName env x v) m' N' fun _ => Q .next)
    (hs : swapsWith value (some (.Name x pos')) pos.line env = pure false := by rfl) : Sat w c f (exec (.Assign [.Name x pos'] value pos) env) m N Q :=
  fun s M R F N O hR => wpAny_Assign_Name (h s M _ F N O fun _ _ _ _ _ q F' N' O' => q _ M _ F' N' O' fun _ _ _ _ _ q' F'' N'' O'' => hR _ _ _ _ _ q' F'' N'' O'') hs
theorem sat_assignAttr {o : Expr} {attr : Str} {pos' pos : Pos} {value : Expr} {Q : Flow → Loc → Led → Prop}
    (h : Sat w c f (eval value env) m N fun v m' N' => Sat w c f (eval o env) m' N' fun ov m'' N'' => Sat w c f (setAttr ov attr v) m'' N'' fun _ => Q .next)
    (hs : swapsWith value (some (o.Attribute attr pos')) pos.line env = pure false := by rfl) : Sat w c f (exec (.Assign [o.Attribute attr pos'] value pos) env) m N Q :=
  fun s M R F N O hR => plainObj_wpAny_Assign_Attribute (h s M _ F N O fun _ _ _ _ _ q F' N' O' => q _ M _ F' N' O' fun _ _ _ _ _ q' F'' N'' O'' => q' _ M _ F'' N'' O'' fun _ _ _ _ _ q₃ F₃ N₃ O₃ => hR _ _ _ _ _ q₃ F₃ N₃ O₃) hs
theorem sat_assignSub {o i : Expr} {pos' pos : Pos} {value : Expr} {Q : Flow → Loc → Led → Prop}
    (h : Sat w c f (eval value env) m N fun v m' N' => Sat w c f (eval o env) m' N' fun ov m'' N'' => Sat w c f (eval i env) m'' N'' fun iv m₃ N₃ => Sat w c f (setItem ov iv v) m₃ N₃ fun _ => Q .next)
    (hs : swapsWith value (some (o.Subscript i pos')) pos.line env = pure false := by rfl) : Sat w c f (exec (.Assign [o.Subscript i pos'] value pos) env) m N Q :=
  fun s M R F N O hR => wpAny_Assign_Subscript (h s M _ F N O fun _ _ _ _ _ q F' N' O' => q _ M _ F' N' O' fun _ _ _ _ _ q' F'' N'' O'' => q' _ M _ F'' N'' O'' fun _ _ _ _ _ q₃ F₃ N₃ O₃ => q₃ _ M _ F₃ N₃ O₃ fun _ _ _ _ _ q₄ F₄ N₄ O₄ => hR _ _ _ _ _ q₄ F₄ N₄ O₄) hs
theorem sat_aug {x : Str} {pos' pos : Pos} {op : Operator} {value : Expr} {Q : Flow → Loc → Led → Prop}
    (h : Sat w c f (loadName env x) m N fun old m₁ N₁ => Sat w c f (eval value env) m₁ N₁ fun v m₂ N₂ => Sat w c f (inplaceOp op old v) m₂ N₂ fun r m₃ N₃ => Sat w c f (storeName env x r) m₃ N₃ fun _ => Q .next) :
    Sat w c f (exec (.AugAssign (.Name x pos') op value pos) env) m N Q :=
  fun s M R F N O hR => wpAny_AugAssign_Name (h s M _ F N O fun _ _ _ _ _ q F' N' O' => q _ M _ F' N' O' fun _ _ _ _ _ q' F'' N'' O'' => q' _ M _ F'' N'' O'' fun _ _ _ _ _ q₃ F₃ N₃ O₃ => q₃ _ M _ F₃ N₃ O₃ fun _ _ _ _ _ q₄ F₄ N₄ O₄ => hR _ _ _ _ _ q₄ F₄ N₄ O₄)
theorem sat_expr {e : Expr} {pos : Pos} {Q : Flow → Loc → Led → Prop} (h : Sat w c f (eval e env) m N fun v m' N' => v = .none ∧ Q .next m' N')
    (hi : interactive env = false := by rfl) (hs : swapsWith e none pos.line env = pure false := by rfl) : Sat w c f (exec (.Expr e pos) env) m N Q :=
  fun s M R F N O hR => wpAny_Expr (h s M _ F N O fun _ _ _ _ _ q F' N' O' => by obtain ⟨rfl, q⟩ := q; exact hR _ _ _ _ _ q F' N' O') hi hs

-- tests
theorem sat_t_and {x : Expr} {rest : List Expr} {pos : Pos} {whole : Sem Value} {Q : Bool → Loc → Led → Prop}
    (h : Sat w c f (isTrue x env (eval x env)) m N fun b m' N' => if b = true then Sat w c f (isTrue (.BoolOp .And rest pos) env whole) m' N' Q else Q false m' N') :
    Sat w c f (isTrue (.BoolOp .And (x :: rest) pos) env whole) m N Q :=
  fun s M R F N O hR => isTrue_and (h s M _ F N O fun b m' N' h' tk' q F' N'' O' => by
    cases b with
    | true => exact q _ M R F' N'' O' hR
    | false => exact hR _ _ _ _ _ q F' N'' O')
theorem sat_t_and0 {pos : Pos} {whole : Sem Value} {Q : Bool → Loc → Led → Prop} (h : Q true m N) : Sat w c f (isTrue (.BoolOp .And [] pos) env whole) m N Q :=
  fun _ _ _ F N O hR => isTrue_and_nil (hR _ _ _ _ _ h F N O)
theorem sat_t_or {x : Expr} {rest : List Expr} {pos : Pos} {whole : Sem Value} {Q : Bool → Loc → Led → Prop}
    (h : Sat w c f (isTrue x env (eval x env)) m N fun b m' N' => if b = true then Q true m' N' else Sat w c f (isTrue (.BoolOp .Or rest pos) env whole) m' N' Q) :
    Sat w c f (isTrue (.BoolOp .Or (x :: rest) pos) env whole) m N Q :=
  fun s M R F N O hR => isTrue_or (h s M _ F N O fun b m' N' h' tk' q F' N'' O' => by
    cases b with
    | true => exact hR _ _ _ _ _ q F' N'' O'
    | false => exact q _ M R F' N'' O' hR)
theorem sat_t_or0 {pos : Pos} {whole : Sem Value} {Q : Bool → Loc → Led → Prop} (h : Q false m N) : Sat w c f (isTrue (.BoolOp .Or [] pos) env whole) m N Q :=
  fun _ _ _ F N O hR => isTrue_or_nil (hR _ _ _ _ _ h F N O)
theorem sat_t_not {x : Expr} {pos : Pos} {whole : Sem Value} {Q : Bool → Loc → Led → Prop} (h : Sat w c f (isTrue x env (eval x env)) m N fun b m' N' => Q (!b) m' N') :
    Sat w c f (isTrue (.UnaryOp .Not x pos) env whole) m N Q :=
  fun s M R F N O hR => isTrue_not (h s M _ F N O fun _ _ _ _ _ q F' N' O' => hR _ _ _ _ _ q F' N' O')
theorem sat_t_plain {e : Expr} {whole : Sem Value} {Q : Bool → Loc → Led → Prop} (h : Sat w c f whole m N fun v m' N' => Sat w c f (truthy v) m' N' Q)
    (hw : isTrue e env whole = (do let v ← whole; standAt e.pos; holding [v] (truthy v)) := by rfl) : Sat w c f (isTrue e env whole) m N Q :=
  sat_seq (fun _ _ h => isTrue_plain h hw) h
theorem sat_t_cmp {l r : Expr} {op : CmpOp} {pos : Pos} {whole : Sem Value} {Q : Bool → Loc → Led → Prop}
    (h : Sat w c f (eval l env) m N fun a m' N' => Sat w c f (eval r env) m' N' fun b m'' N'' => Sat w c f (compareOp op a b) m'' N'' fun v m₃ N₃ => ∃ b, v = .bool b ∧ Q b m₃ N₃)
    (hm : behindInMarks op r = false := by rfl) : Sat w c f (isTrue (.Compare l [op] [r] pos) env whole) m N Q :=
  fun s M R F N O hR => wpAny_isTrue_Compare1 (h s M _ F N O fun _ _ _ _ _ q F' N' O' => q _ M _ F' N' O' fun _ _ _ _ _ q' F'' N'' O'' => q' _ M _ F'' N'' O'' fun _ _ _ _ _ q₃ F₃ N₃ O₃ => by
    obtain ⟨b, rfl, q₃⟩ := q₃
    exact wpAny_truthy_bool (hR _ _ _ _ _ q₃ F₃ N₃ O₃)) hm
theorem sat_truthy_bool {b : Bool} {Q : Bool → Loc → Led → Prop} (h : Q b m N) : Sat w c f (truthy (.bool b)) m N Q := fun _ _ _ F N O hR => wpAny_truthy_bool (hR _ _ _ _ _ h F N O)

-- expressions
theorem sat_cmp {l r : Expr} {op : CmpOp} {pos : Pos} {Q : Value → Loc → Led → Prop}
    (h : Sat w c f (eval l env) m N fun a m' N' => Sat w c f (eval r env) m' N' fun b m'' N'' => Sat w c f (compareOp op a b) m'' N'' Q)
    (hm : behindInMarks op r = false := by rfl) : Sat w c f (eval (.Compare l [op] [r] pos) env) m N Q :=
  fun s M R F N O hR => wpAny_Compare1 (h s M _ F N O fun _ _ _ _ _ q F' N' O' => q _ M _ F' N' O' fun _ _ _ _ _ q' F'' N'' O'' => q' _ M _ F'' N'' O'' hR) hm
theorem sat_bin {l r : Expr} {op : Operator} {pos : Pos} {Q : Value → Loc → Led → Prop}
    (h : Sat w c f (eval l env) m N fun a m' N' => Sat w c f (eval r env) m' N' fun b m'' N'' => Sat w c f (binaryOp op a b) m'' N'' Q) : Sat w c f (eval (.BinOp l op r pos) env) m N Q :=
  fun s M R F N O hR => wpAny_BinOp (h s M _ F N O fun _ _ _ _ _ q F' N' O' => q _ M _ F' N' O' fun _ _ _ _ _ q' F'' N'' O'' => q' _ M _ F'' N'' O'' hR)
theorem sat_ifexp {test body orelse : Expr} {pos : Pos} {Q : Value → Loc → Led → Prop}
    (h : Sat w c f (isTrue test env (eval test env)) m N fun b m' N' => if b = true then Sat w c f (eval body env) m' N' Q else Sat w c f (eval orelse env) m' N' Q) :
    Sat w c f (eval (.IfExp test body orelse pos) env) m N Q :=
  fun s M R F N O hR => IfExp_ (h s M _ F N O fun b m' N' h' tk' q F' N'' O' => by
    cases b with
    | true => exact q _ M R F' N'' O' hR
    | false => exact q _ M R F' N'' O' hR)
theorem sat_and {e₁ e₂ : Expr} {rest : List Expr} {pos : Pos} {Q : Value → Loc → Led → Prop}
    (h : Sat w c f (eval e₁ env) m N fun v m₁ N₁ => ∃ b, v = .bool b ∧ if b = true then Sat w c f (eval (.BoolOp .And (e₂ :: rest) pos) env) m₁ N₁ Q else Q (.bool false) m₁ N₁) :
    Sat w c f (eval (.BoolOp .And (e₁ :: e₂ :: rest) pos) env) m N Q :=
  fun s M R F N O hR => BoolOp_and (h s M _ F N O fun v m' N' h' tk' q F' N'' O' => by
    obtain ⟨b, rfl, q⟩ := q
    refine wpAny_truthy_bool ?_
    cases b with
    | true => exact q _ M R F' N'' O' hR
    | false => exact hR _ _ _ _ _ q F' N'' O')
theorem sat_or {e₁ e₂ : Expr} {rest : List Expr} {pos : Pos} {Q : Value → Loc → Led → Prop}
    (h : Sat w c f (eval e₁ env) m N fun v m₁ N₁ => ∃ b, v = .bool b ∧ if b = true then Q (.bool true) m₁ N₁ else Sat w c f (eval (.BoolOp .Or (e₂ :: rest) pos) env) m₁ N₁ Q) :
    Sat w c f (eval (.BoolOp .Or (e₁ :: e₂ :: rest) pos) env) m N Q :=
  fun s M R F N O hR => BoolOp_or (h s M _ F N O fun v m' N' h' tk' q F' N'' O' => by
    obtain ⟨b, rfl, q⟩ := q
    refine wpAny_truthy_bool ?_
    cases b with
    | true => exact hR _ _ _ _ _ q F' N'' O'
    | false => exact q _ M R F' N'' O' hR)
theorem sat_one {op : BoolOp} {e : Expr} {pos : Pos} {Q : Value → Loc → Led → Prop} (h : Sat w c f (eval e env) m N Q) : Sat w c f (eval (.BoolOp op [e] pos) env) m N Q :=
  fun s M R F N O hR => BoolOp_one (h s M R F N O hR)
theorem sat_unary {op : UnaryOp} {x : Expr} {pos : Pos} {Q : Value → Loc → Led → Prop} (h : Sat w c f (eval x env) m N fun v m' N' => Sat w c f (unaryOp op v) m' N' Q) : Sat w c f (eval (.UnaryOp op x pos) env) m N Q :=
  sat_seq (fun _ _ h => UnaryOp_ h) h
theorem sat_attr {o : Expr} {attr : Str} {pos : Pos} {Q : Value → Loc → Led → Prop} (h : Sat w c f (eval o env) m N fun v m' N' => Sat w c f (getAttr v attr true) m' N' Q)
    (he : eval (o.Attribute attr pos) env = (do let o' ← eval o env; standAt pos.atName; let r ← holding [o'] (getAttr o' attr true); letTemporaryGo o o' r; pure r) := by rfl) :
    Sat w c f (eval (o.Attribute attr pos) env) m N Q := sat_seq (fun _ _ h => Attribute_any_ h he) h
theorem sat_sub {o i : Expr} {pos : Pos} {Q : Value → Loc → Led → Prop}
    (h : Sat w c f (eval o env) m N fun v m' N' => Sat w c f (eval i env) m' N' fun iv m'' N'' => Sat w c f (subscriptTail o i v iv) m'' N'' Q) : Sat w c f (eval (o.Subscript i pos) env) m N Q :=
  fun s M R F N O hR => Subscript_ (h s M _ F N O fun _ _ _ _ _ q F' N' O' => q _ M _ F' N' O' fun _ _ _ _ _ q' F'' N'' O'' => q' _ M _ F'' N'' O'' hR)
theorem sat_int {i : Int} {k : Nat} {pos : Pos} {Q : Value → Loc → Led → Prop} (h : ∀ t, Q (.int i t) m N) : Sat w c f (eval (.Constant (.int i) k pos) env) m N Q :=
  fun _ _ _ F N O hR => wpAny_Constant_int (hR _ _ _ _ _ (h _) F N O)
theorem sat_str {x : Str} {k : Nat} {pos : Pos} {Q : Value → Loc → Led → Prop} (h : ∀ t, Q (.str x t) m N) : Sat w c f (eval (.Constant (.str x) k pos) env) m N Q :=
  fun _ _ _ F N O hR => Calls.Constant_str (hR _ _ _ _ _ (h _) F N O)
theorem sat_bool {b : Bool} {k : Nat} {pos : Pos} {Q : Value → Loc → Led → Prop} (h : Q (.bool b) m N) : Sat w c f (eval (.Constant (.bool b) k pos) env) m N Q :=
  fun _ _ _ F N O hR => Constant_bool (hR _ _ _ _ _ h F N O)
theorem sat_none {k : Nat} {pos : Pos} {Q : Value → Loc → Led → Prop} (h : Q .none m N) : Sat w c f (eval (.Constant .none k pos) env) m N Q :=
  fun _ _ _ F N O hR => Constant_none (hR _ _ _ _ _ h F N O)
theorem sat_sp_more {e : Expr} {rest : List Expr} {pos : Pos} {Q : List Value → Loc → Led → Prop}
    (h : Sat w c f (eval e env) m N fun v m' N' => Sat w c f (spliced (backTo pos (starEach rest env))) m' N' fun vs => Q (v :: vs))
    (he : starEach (e :: rest) env = (false, eval e env) :: starEach rest env := by rfl) : Sat w c f (spliced (backTo pos (starEach (e :: rest) env))) m N Q :=
  fun s M R F N O hR => spliced_more (h s M _ F N O fun _ _ _ _ _ q F' N' O' => q _ M _ F' N' O' fun _ _ _ _ _ q' F'' N'' O'' => hR _ _ _ _ _ q' F'' N'' O'') he
theorem sat_sp_none {pos : Pos} {Q : List Value → Loc → Led → Prop} (h : Q [] m N) : Sat w c f (spliced (backTo pos (starEach [] env))) m N Q :=
  fun _ _ _ F N O hR => spliced_none (hR _ _ _ _ _ h F N O)
theorem sat_tuple {elts : List Expr} {k : Nat} {pos : Pos} {Q : Value → Loc → Led → Prop} (h : Sat w c f (spliced (backTo pos (starEach elts env))) m N fun vs m' N' => Sat w c f (newTuple vs) m' N' Q) :
    Sat w c f (eval (.Tuple elts k pos) env) m N Q := sat_seq (fun _ _ h => Tuple_ h) h
theorem sat_list {elts : List Expr} {pos : Pos} {Q : Value → Loc → Led → Prop} (h : Sat w c f (spliced (backTo pos (starEach elts env))) m N fun vs m' N' => Sat w c f (newList vs) m' N' Q) :
    Sat w c f (eval (.List elts pos) env) m N Q := sat_seq (fun _ _ h => List_ h) h
noncomputable abbrev lst (vs : List Value) (n : Nat) : Obj := listOf vs.toArray n
noncomputable abbrev tup (vs : List Value) : Obj := { cls := .type "tuple", data := .seq vs.toArray 0 }
theorem sat_newList {vs : List Value} {Q : Value → Loc → Led → Prop} (h : ∀ l, (∀ p ∈ N, p.1 < l) → Q (.ref l) m ((l, lst vs 0) :: N)) (hz : vs.length ≤ sizeLine) : Sat w c f (newList vs) m N Q :=
  fun _ M _ F N O hR => newList_K F N (fun l h' F' N' lt => hR _ _ _ _ _ (h l fun p hp => lt p (List.mem_append_left _ hp)) F' N' (O.cons lt)) hz
theorem sat_newTuple {vs : List Value} {Q : Value → Loc → Led → Prop} (h : ∀ l, (∀ p ∈ N, p.1 < l) → Q (.ref l) m ((l, tup vs) :: N)) (hz : vs.length ≤ sizeLine) : Sat w c f (newTuple vs) m N Q :=
  fun _ M _ F N O hR => newTuple_N F N (fun h' F' N' => hR _ _ _ _ _ (h _ fun p hp => Heap.lt_size (N p (List.mem_append_left _ hp)).1) F' N' (O.cons fun p hp => Heap.lt_size (N p hp).1)) hz
end
-- a frame's names, in their order
noncomputable def lk : List Str → List (Option Value) → Loc
  | k :: ks, v :: vs => fun y => if y = k then v else lk ks vs y
  | _, _ => fun _ => none
theorem lk_get : ∀ {ks : List Str} {vs : List (Option Value)} (i : Nat) {x : Str} {v : Option Value}, ks.Nodup → ks[i]? = some x → vs[i]? = some v → lk ks vs x = v
  | [], _, _, _, _, _, h, _ => by simp at h
  | _ :: _, [], _, _, _, _, _, h => by simp at h
  | k :: ks, u :: vs, 0, x, v, _, h1, h2 => by
    simp only [List.getElem?_cons_zero, Option.some.injEq] at h1 h2
    subst h1 h2
    simp [lk]
  | k :: ks, u :: vs, i + 1, x, v, hn, h1, h2 => by
    simp only [List.getElem?_cons_succ] at h1 h2
    have hx : x ≠ k := fun e => (List.nodup_cons.mp hn).1 (e ▸ List.mem_of_getElem? h1)
    simp only [lk, if_neg hx]
    exact lk_get i (List.nodup_cons.mp hn).2 h1 h2
theorem lk_set : ∀ {ks : List Str} {vs : List (Option Value)} (i : Nat) {x : Str} {v : Option Value}, ks.Nodup → ks[i]? = some x → i < vs.length → (fun y => if y = x then v else lk ks vs y) = lk ks (vs.set i v)
  | [], _, _, _, _, _, h, _ => by simp at h
  | _ :: _, [], _, _, _, _, _, h => by simp at h
  | k :: ks, u :: vs, 0, x, v, _, h1, _ => by
    simp only [List.getElem?_cons_zero, Option.some.injEq] at h1
    subst h1
    funext y
    simp only [lk, List.set_cons_zero]
    by_cases e : y = k <;> simp [e]
  | k :: ks, u :: vs, i + 1, x, v, hn, h1, h2 => by
    simp only [List.getElem?_cons_succ] at h1
    have hx : x ≠ k := fun e => (List.nodup_cons.mp hn).1 (e ▸ List.mem_of_getElem? h1)
    have ih := lk_set (vs := vs) i (v := v) (List.nodup_cons.mp hn).2 h1 (by simpa using h2)
    funext y
    simp only [lk, List.set_cons_succ]
    rw [← ih]
    by_cases e : y = k
    · have : y ≠ x := fun q => hx (q ▸ e)
      simp [e]
      intro q; exact absurd q.symm hx
    · simp [e]
theorem lk_binds : ∀ (n : Nat) (ks : List Str) (vals : List Value), ks.Nodup → vals.length = n → n ≤ ks.length →
    (fun y => ((ks.take n).zip vals).reverse.lookup y) = lk ks (vals.map some ++ List.replicate (ks.length - n) none) := by
  intro n ks
  induction ks generalizing n with
  | nil =>
    intro vals _ h1 h2
    have : n = 0 := by simpa using h2
    subst this
    have : vals = [] := by simpa using h1
    subst this
    rfl
  | cons k ks ih =>
    intro vals hn h1 h2
    cases vals with
    | nil =>
      have : n = 0 := by simpa using h1.symm
      subst this
      funext y
      have z : ∀ (l : List Str) (j : Nat) (y : Str), lk l (List.replicate j none) y = none := by
        intro l
        induction l with
        | nil => intro j y; cases j <;> rfl
        | cons a l ih =>
          intro j y
          cases j with
          | zero => rfl
          | succ j => simp only [List.replicate_succ, lk]; rw [ih]; simp
      simpa using (z (k :: ks) _ y).symm
    | cons v vals =>
      cases n with
      | zero => simp at h1
      | succ n =>
        funext y
        have e := congrFun (ih n vals (List.nodup_cons.mp hn).2 (by simpa using h1) (by simpa using h2)) y
        simp only [List.take_succ_cons, List.zip_cons_cons, List.reverse_cons, List.lookup_append, List.map_cons, List.cons_append, lk, List.length_cons, Nat.add_sub_add_right]
        rw [e]
        by_cases hy : y = k
        · subst hy
          have hz : List.lookup y ((ks.take n).zip vals).reverse = none := by
            rw [List.lookup_eq_none_iff]
            intro p hp
            have hp' := List.mem_reverse.mp hp
            have hm := (List.of_mem_zip hp').1
            have : y ≠ p.1 := fun q => (List.nodup_cons.mp hn).1 (q ▸ List.mem_of_mem_take hm)
            simpa using this
          rw [← e, hz]
          simp
        · have hb : (y == k) = false := by simpa using hy
          have hl : List.lookup y [(k, v)] = none := by simp [List.lookup, hb]
          rw [hl, if_neg hy, Option.or_none]

structure FnG (f : Fn) (ks gs : List Str) : Prop where
  kind : f.cs.kind = .function
  co : f.cs.isCoroutine = false
  gen : f.cs.isGenerator = false
  nd : ks.Nodup
  loc : ∀ x ∈ ks, f.cs.names.lookup x = some .local ∧ (x == ("__debug__" : Str)) = false
  glo : ∀ x ∈ gs, f.cs.names.lookup x = some .globalImplicit ∧ (x == ("__debug__" : Str)) = false
/-- the same, looked at -/
noncomputable def fnOk (f : Fn) (ks gs : List Str) : Bool := (match f.cs.kind with | .function => true | _ => false) && !f.cs.isCoroutine && !f.cs.isGenerator && decide ks.Nodup &&
  (ks.all fun x => decide (f.cs.names.lookup x = some .local) && !(x == ("__debug__" : Str))) && (gs.all fun x => decide (f.cs.names.lookup x = some .globalImplicit) && !(x == ("__debug__" : Str)))
theorem fnG_of {f : Fn} {ks gs : List Str} (h : fnOk f ks gs = true) : FnG f ks gs := by
  simp only [fnOk, Bool.and_eq_true, Bool.not_eq_true', List.all_eq_true, decide_eq_true_eq] at h
  obtain ⟨⟨⟨⟨⟨h1, h2⟩, h3⟩, h4⟩, h5⟩, h6⟩ := h
  refine ⟨?_, h2, h3, h4, h5, h6⟩
  cases hk : f.cs.kind <;> simp_all

section
variable {α β : Type} {w : World} {c : Fx} {f : Fn} {m : Loc} {N : Led} {gs : List Str}
theorem sat_ldI {ks : List Str} {vs : List (Option Value)} {x : Str} {v : Value} {pos : Pos} {Q : Value → Loc → Led → Prop} (G : FnG f ks gs) (i : Nat) (h1 : ks[i]? = some x) (h2 : vs[i]? = some (some v)) (h : Q v (lk ks vs) N) :
    Sat w c f (eval (.Name x pos) (c.env f)) (lk ks vs) N Q :=
  fun _ _ _ F N O hR => nameX_L F (lk_get i G.nd h1 h2) (hR _ _ _ _ _ h F N O) G.kind (G.loc x (List.mem_of_getElem? h1)).1 (G.loc x (List.mem_of_getElem? h1)).2
theorem sat_lnI {ks : List Str} {vs : List (Option Value)} {x : Str} {v : Value} {Q : Value → Loc → Led → Prop} (G : FnG f ks gs) (i : Nat) (h1 : ks[i]? = some x) (h2 : vs[i]? = some (some v)) (h : Q v (lk ks vs) N) :
    Sat w c f (loadName (c.env f) x) (lk ks vs) N Q :=
  fun _ _ _ F N O hR => wpAny_loadName_local G.kind (G.loc x (List.mem_of_getElem? h1)).1 F.ns (lk_get i G.nd h1 h2) (hR _ _ _ _ _ h F N O)
theorem sat_stI {ks : List Str} {vs : List (Option Value)} {x : Str} {v : Value} {Q : Unit → Loc → Led → Prop} (G : FnG f ks gs) (i : Nat) (h1 : ks[i]? = some x) (h2 : i < vs.length) (h : Q () (lk ks (vs.set i (some v))) N) :
    Sat w c f (storeName (c.env f) x v) (lk ks vs) N Q :=
  fun _ _ _ F N O hR => storeX_L F N (fun h' F' N' => hR _ _ _ _ _ h (by rw [← lk_set i G.nd h1 h2]; exact F') N' O) G.kind (G.loc x (List.mem_of_getElem? h1)).1
theorem sat_gl {ks : List Str} {x : Str} {v : Value} {pos : Pos} {Q : Value → Loc → Led → Prop} (hc : c.Ok w) (e : nsIn (KF w.params) mainGlobals x = some (some v)) (G : FnG f ks gs) (hx : x ∈ gs) (h : Q v m N) :
    Sat w c f (eval (.Name x pos) (c.env f)) m N Q :=
  fun _ _ _ F N O hR => let ⟨_, _, T⟩ := hc.T; nameX_K F hc.X T e (hR _ _ _ _ _ h F N O) G.kind (G.glo x hx).1 (G.glo x hx).2
theorem sat_bi {ks : List Str} {x : Str} {v : Value} {pos : Pos} {Q : Value → Loc → Led → Prop} (hc : c.Ok w) (e : nsIn (KF w.params) mainGlobals x = some none ∧ bootBuiltins x = some v ∧ x ≠ "__name__") (G : FnG f ks gs) (hx : x ∈ gs) (h : Q v m N) :
    Sat w c f (eval (.Name x pos) (c.env f)) m N Q :=
  fun _ _ _ F N O hR => let ⟨_, _, T⟩ := hc.T; nameX_B F hc.X T e.1 e.2.1 e.2.2 (hR _ _ _ _ _ h F N O) G.kind (G.glo x hx).1 (G.glo x hx).2

section
variable {env : Env}
-- calls
theorem sat_call {func e : Expr} {rest : List Expr} {pos : Pos} {Q : Value → Loc → Led → Prop} (hc : c.Ok w)
    (h : Sat w c f (eval func env) m N fun fv m₁ N₁ => keepIn (KF w.params) fv = true ∧ Sat w c f (spliced (backTo pos (starEach (e :: rest) env))) m₁ N₁ fun vs m₂ N₂ => Sat w c f (call fv vs) m₂ N₂ Q)
    (hx : eval (func.Call (e :: rest) [] pos) env = (do let fv ← eval func env; callWith pos fv [] (backTo pos (starEach (e :: rest) env)) (backToKw pos (keywordEach [] env))) := by rfl)
    (he : starEach (e :: rest) env = (false, eval e env) :: starEach rest env := by rfl) (hp : (backTo pos (starEach rest env)).any (·.1) = false := by rfl) :
    Sat w c f (eval (func.Call (e :: rest) [] pos) env) m N Q :=
  fun s M R F N O hR => Call_ (h s M _ F N O fun fv m₁ N₁ h₁ t₁ q F₁ N₁' O₁ => callWith_K hc.X q.1 (q.2 _ M _ F₁ N₁' O₁ fun vs m₂ N₂ h₂ t₂ q₂ F₂ N₂' O₂ => ⟨hc.X.keeps F₂.keep, q₂ _ M R F₂ N₂' O₂ hR⟩) he hp) hx
theorem sat_callB {func e : Expr} {rest : List Expr} {pos : Pos} {id : String} {Q : Value → Loc → Led → Prop}
    (h : Sat w c f (eval func env) m N fun fv m₁ N₁ => fv = .builtin id ∧ Sat w c f (spliced (backTo pos (starEach (e :: rest) env))) m₁ N₁ fun vs m₂ N₂ => Sat w c f (call (.builtin id) vs) m₂ N₂ Q)
    (hx : eval (func.Call (e :: rest) [] pos) env = (do let fv ← eval func env; callWith pos fv [] (backTo pos (starEach (e :: rest) env)) (backToKw pos (keywordEach [] env))) := by rfl)
    (he : starEach (e :: rest) env = (false, eval e env) :: starEach rest env := by rfl) (hp : (backTo pos (starEach rest env)).any (·.1) = false := by rfl) :
    Sat w c f (eval (func.Call (e :: rest) [] pos) env) m N Q :=
  fun s M R F N O hR => Call_ (h s M _ F N O fun fv m₁ N₁ h₁ t₁ q F₁ N₁' O₁ => by
    obtain ⟨rfl, q⟩ := q
    exact PyProof.Rows.callWith_builtin1 (q _ M _ F₁ N₁' O₁ fun vs m₂ N₂ h₂ t₂ q₂ F₂ N₂' O₂ => q₂ _ M R F₂ N₂' O₂ hR) he hp) hx
theorem sat_callT {func e : Expr} {rest : List Expr} {pos : Pos} {T : String} {Q : Value → Loc → Led → Prop}
    (h : Sat w c f (eval func env) m N fun fv m₁ N₁ => fv = .type T ∧ Sat w c f (spliced (backTo pos (starEach (e :: rest) env))) m₁ N₁ fun vs m₂ N₂ => Sat w c f (call (.type T) vs) m₂ N₂ Q)
    (hx : eval (func.Call (e :: rest) [] pos) env = (do let fv ← eval func env; callWith pos fv [] (backTo pos (starEach (e :: rest) env)) (backToKw pos (keywordEach [] env))) := by rfl)
    (he : starEach (e :: rest) env = (false, eval e env) :: starEach rest env := by rfl) (hp : (backTo pos (starEach rest env)).any (·.1) = false := by rfl) :
    Sat w c f (eval (func.Call (e :: rest) [] pos) env) m N Q :=
  fun s M R F N O hR => Call_ (h s M _ F N O fun fv m₁ N₁ h₁ t₁ q F₁ N₁' O₁ => by
    obtain ⟨rfl, q⟩ := q
    exact PyProof.Rows.callWith_type1 (q _ M _ F₁ N₁' O₁ fun vs m₂ N₂ h₂ t₂ q₂ F₂ N₂' O₂ => q₂ _ M R F₂ N₂' O₂ hR) he hp) hx
/-- a method of an own object -/
theorem sat_meth {o e : Expr} {name : Str} {rest : List Expr} {apos pos : Pos} {pl : Sem Bool} {Q : Value → Loc → Led → Prop} (hc : c.Ok w)
    (h : Sat w c f (eval o env) m N fun ov m₁ N₁ => Sat w c f (getMethod ov name pl) m₁ N₁ fun fx m₂ N₂ => keepIn (KF w.params) fx.1 = true ∧
      Sat w c f (spliced (backTo pos (starEach (e :: rest) env))) m₂ N₂ fun vs m₃ N₃ => Sat w c f (call fx.1 (fx.2 ++ vs)) m₃ N₃ Q)
    (hx : eval (.Call (.Attribute o name apos) (e :: rest) [] pos) env = (do
      let ov ← eval o env
      standAt apos.atName
      let (fv, first) ← holding [ov] (getMethod ov name pl)
      callWith pos fv first (backTo pos (starEach (e :: rest) env)) (backToKw pos (keywordEach [] env))) := by rfl)
    (he : starEach (e :: rest) env = (false, eval e env) :: starEach rest env := by rfl) (hp : (backTo pos (starEach rest env)).any (·.1) = false := by rfl) :
    Sat w c f (eval (.Call (.Attribute o name apos) (e :: rest) [] pos) env) m N Q :=
  fun s M R F N O hR => methodCall_KW (h s M _ F N O fun ov m₁ N₁ h₁ t₁ q F₁ N₁' O₁ => q _ M _ F₁ N₁' O₁ fun fx m₂ N₂ h₂ t₂ q₂ F₂ N₂' O₂ =>
    callWith_K hc.X q₂.1 (q₂.2 _ M _ F₂ N₂' O₂ fun vs m₃ N₃ h₃ t₃ q₃ F₃ N₃' O₃ => ⟨hc.X.keeps F₃.keep, q₃ _ M R F₃ N₃' O₃ hR⟩) he hp) hx
/-- a method of a built-in object -/
theorem sat_methB {o e : Expr} {name : Str} {rest : List Expr} {apos pos : Pos} {pl : Sem Bool} {Q : Value → Loc → Led → Prop}
    (h : Sat w c f (eval o env) m N fun ov m₁ N₁ => Sat w c f (getMethod ov name pl) m₁ N₁ fun fx m₂ N₂ => ∃ id, fx.1 = .builtin id ∧
      Sat w c f (spliced (backTo pos (starEach (e :: rest) env))) m₂ N₂ fun vs m₃ N₃ => Sat w c f (call (.builtin id) (fx.2 ++ vs)) m₃ N₃ Q)
    (hx : eval (.Call (.Attribute o name apos) (e :: rest) [] pos) env = (do
      let ov ← eval o env
      standAt apos.atName
      let (fv, first) ← holding [ov] (getMethod ov name pl)
      callWith pos fv first (backTo pos (starEach (e :: rest) env)) (backToKw pos (keywordEach [] env))) := by rfl)
    (he : starEach (e :: rest) env = (false, eval e env) :: starEach rest env := by rfl) (hp : (backTo pos (starEach rest env)).any (·.1) = false := by rfl) :
    Sat w c f (eval (.Call (.Attribute o name apos) (e :: rest) [] pos) env) m N Q :=
  fun s M R F N O hR => methodCall_KW (h s M _ F N O fun ov m₁ N₁ h₁ t₁ q F₁ N₁' O₁ => q _ M _ F₁ N₁' O₁ fun fx m₂ N₂ h₂ t₂ q₂ F₂ N₂' O₂ => by
    obtain ⟨fv, fs⟩ := fx
    obtain ⟨id, e1, q₂⟩ := q₂
    dsimp only at e1
    subst e1
    exact callWith_method1 (q₂ _ M _ F₂ N₂' O₂ fun vs m₃ N₃ h₃ t₃ q₃ F₃ N₃' O₃ => q₃ _ M R F₃ N₃' O₃ hR) he hp) hx
end
end
section
variable {α β : Type} {w : World} {c : Fx} {f : Fn} {m : Loc} {N : Led} {gs : List Str}
theorem upd_app {d : Addr} {o o' : Obj} {N N' M : Led} (h : Upd d o o' N N') (k : ∀ q ∈ M, q.1 ≠ d) : Upd d o o' (N ++ M) (N' ++ M) := by
  induction h with
  | head a => exact .head fun p hp => (List.mem_append.mp hp).elim (a p) (k p)
  | tail a _ ih => exact .tail a ih
theorem upd_mem {d : Addr} {o o' : Obj} {N N' : Led} (h : Upd d o o' N N') : (d, o) ∈ N ∧ N'.map (·.1) = N.map (·.1) := by
  induction h with
  | head a => exact ⟨.head _, rfl⟩
  | tail a _ ih => exact ⟨.tail _ ih.1, by rw [List.map_cons, List.map_cons, ih.2]⟩
theorem off_map {N N' M : Led} (e : N'.map (·.1) = N.map (·.1)) (h : Off N M) : Off N' M := fun p hp q hq => by
  have : p.1 ∈ N'.map (·.1) := List.mem_map_of_mem hp
  rw [e] at this
  obtain ⟨r, hr, e'⟩ := List.mem_map.mp this
  rw [← e']
  exact h r hr q hq
theorem off_ne {N M : Led} {d : Addr} {o : Obj} (h : Off N M) (hm : (d, o) ∈ N) : ∀ q ∈ M, q.1 ≠ d := fun q hq => (h _ hm q hq).symm

-- an object's own dict
inductive Flds : List DictEntry → List Str → List Value → Prop
  | nil : Flds [] [] []
  | cons {h : Int} {k : Str} {t : Tok} {v : Value} {es : List DictEntry} {ns : List Str} {vs : List Value} : Flds es ns vs → Flds (⟨h, .str k t, v⟩ :: es) (k :: ns) (v :: vs)
theorem isStr_str (x k : Str) (t : Tok) : (Value.str k t).isStr x = decide (k = x) := by
  simp only [Value.isStr]
  by_cases e : k = x
  · subst e; simp
  · have : (k == x) = false := by simpa using e
    simp [this, e]
theorem Flds.get {es : List DictEntry} {ns : List Str} {vs : List Value} (h : Flds es ns vs) : ∀ (i : Nat) {k : Str} {v : Value}, ns.Nodup → ns[i]? = some k → vs[i]? = some v → getL k es = some (some v) := by
  induction h with
  | nil => intro i k v _ h; simp at h
  | @cons hh kk t u es ns vs h ih =>
    intro i k v hn h1 h2
    cases i with
    | zero =>
      simp only [List.getElem?_cons_zero, Option.some.injEq] at h1 h2
      subst h1 h2
      unfold getL
      rw [List.find?_cons, isStr_str]
      simp
    | succ i =>
      simp only [List.getElem?_cons_succ] at h1 h2
      have hx : kk ≠ k := fun e => (List.nodup_cons.mp hn).1 (e ▸ List.mem_of_getElem? h1)
      have := ih i (List.nodup_cons.mp hn).2 h1 h2
      unfold getL at this ⊢
      rw [List.find?_cons, isStr_str]
      simp only [hx, decide_false]
      split at this
      · rename_i q; rw [q]; exact this
      · split at this <;> cases this
theorem Flds.none {es : List DictEntry} {ns : List Str} {vs : List Value} (h : Flds es ns vs) {k : Str} (hk : k ∉ ns) : getL k es = some none ∧ es.any (·.key.isStr k) = false := by
  induction h with
  | nil => exact ⟨rfl, rfl⟩
  | @cons hh kk t u es ns vs h ih =>
    have hx : kk ≠ k := fun e => hk (e ▸ List.mem_cons_self ..)
    obtain ⟨a, b⟩ := ih fun e => hk (List.mem_cons_of_mem _ e)
    constructor
    · unfold getL at a ⊢
      rw [List.find?_cons, isStr_str]
      simp only [hx, decide_false]
      split at a
      · cases a
      · rename_i q
        rw [q]
        dsimp only
        split at a
        · cases a
        · rename_i z
          rw [List.any_cons, if_neg]
          intro y
          rcases Bool.or_eq_true_iff.mp y with y | y
          · exact absurd y (by simp [DictEntry.refKey])
          · exact z y
    · rw [List.any_cons, b, isStr_str]
      simp [hx]
theorem Flds.len {es : List DictEntry} {ns : List Str} {vs : List Value} (h : Flds es ns vs) : es.length = ns.length ∧ vs.length = ns.length := by
  induction h with
  | nil => exact ⟨rfl, rfl⟩
  | cons _ ih => exact ⟨by rw [List.length_cons, List.length_cons, ih.1], by rw [List.length_cons, List.length_cons, ih.2]⟩
theorem Flds.put {es : List DictEntry} {ns : List Str} {vs : List Value} (h : Flds es ns vs) (x : Int) (t : Tok) (n : Nat) : ∀ (i : Nat) {k : Str} {v : Value}, ns.Nodup → ns[i]? = some k → Flds (putL k x (.str k t) v es) ns (vs.set i v) ∧ putN k es n = n := by
  induction h with
  | nil => intro i k v _ h; simp at h
  | @cons hh kk tt u es ns vs h ih =>
    intro i k v hn h1
    cases i with
    | zero =>
      simp only [List.getElem?_cons_zero, Option.some.injEq] at h1
      subst h1
      constructor
      · unfold putL
        rw [isStr_str]
        simp only [decide_true, if_true, List.set_cons_zero]
        exact .cons h
      · unfold putN
        rw [List.any_cons, isStr_str]
        simp
    | succ i =>
      simp only [List.getElem?_cons_succ] at h1
      have hx : kk ≠ k := fun e => (List.nodup_cons.mp hn).1 (e ▸ List.mem_of_getElem? h1)
      obtain ⟨a, b⟩ := ih i (v := v) (List.nodup_cons.mp hn).2 h1
      constructor
      · unfold putL
        rw [isStr_str]
        simp only [hx, decide_false, List.set_cons_succ]
        exact .cons a
      · unfold putN at b ⊢
        rw [List.any_cons, isStr_str]
        simp only [hx, decide_false, Bool.false_or]
        exact b
theorem Flds.add {es : List DictEntry} {ns : List Str} {vs : List Value} (h : Flds es ns vs) (x : Int) (t : Tok) (n : Nat) {k : Str} {v : Value} (hk : k ∉ ns) : Flds (putL k x (.str k t) v es) (ns ++ [k]) (vs ++ [v]) ∧ putN k es n = n + 1 := by
  refine ⟨?_, by unfold putN; rw [(h.none hk).2]; rfl⟩
  induction h with
  | nil => exact .cons .nil
  | @cons hh kk tt u es ns vs h ih =>
    have hx : kk ≠ k := fun e => hk (e ▸ List.mem_cons_self ..)
    unfold putL
    rw [isStr_str]
    simp only [hx, decide_false]
    exact .cons (ih fun e => hk (List.mem_cons_of_mem _ e))

-- what the written part says of a class's attribute
noncomputable def attrIn (K : Frag) (C : Addr) (name : Str) : Bool := plainGet K C name && hasDictIn K C && decide (findIn K (.ref C) name = some none) && noGet K none &&
  decide (findIn K (.ref C) "__setattr__" = some (some (.builtin "object.__setattr__"))) && plainOver K C && decide (takerIn K C name = some none)
noncomputable def methIn (K : Frag) (C : Addr) (name : Str) (g : Addr) : Bool := plainGet K C name && decide (findIn K (.ref C) name = some (some (.ref g))) && isFn K (.ref g) && keepIn K (.ref g)

theorem sat_get {x dx C : Addr} {es : List DictEntry} {ns : List Str} {vs : List Value} {n : Nat} {name : Str} {v : Value} {expr : Bool} {Q : Value → Loc → Led → Prop} (hc : c.Ok w) (ha : attrIn (KF w.params) C name = true) (i : Nat)
    (h1 : (x, instObj C dx) ∈ N) (h2 : (dx, dictOf es n) ∈ N) (hF : Flds es ns vs) (hn : ns.Nodup) (hi : ns[i]? = some name) (hvi : vs[i]? = some v) (hv : handedIn v = true) (h : Q v m N) :
    Sat w c f (getAttr (.ref x) name expr) m N Q := fun _ M _ F N' O hR => by
  simp only [attrIn, Bool.and_eq_true, decide_eq_true_eq] at ha
  obtain ⟨⟨⟨⟨⟨⟨a1, a2⟩, a3⟩, a4⟩, _⟩, _⟩, _⟩ := ha
  exact get_own F hc.X (InstAt.of_news N' (List.mem_append_left _ h1) (List.mem_append_left _ h2)) a1 a2 a3 a4 (hF.get i hn hi hvi) hv (hR _ _ _ _ _ h F N' O)
theorem sat_getMethod {x dx C g : Addr} {es : List DictEntry} {ns : List Str} {vs : List Value} {n : Nat} {name : Str} {pl : Sem Bool} {Q : Value × List Value → Loc → Led → Prop} (hc : c.Ok w) (ha : methIn (KF w.params) C name g = true)
    (h1 : (x, instObj C dx) ∈ N) (h2 : (dx, dictOf es n) ∈ N) (hF : Flds es ns vs) (hk : name ∉ ns) (h : Q (.ref g, [.ref x]) m N) :
    Sat w c f (getMethod (.ref x) name pl) m N Q := fun _ M _ F N' O hR => by
  simp only [methIn, Bool.and_eq_true, decide_eq_true_eq] at ha
  obtain ⟨⟨⟨a1, a2⟩, a3⟩, _⟩ := ha
  exact method_inst F hc.X (InstAt.of_news N' (List.mem_append_left _ h1) (List.mem_append_left _ h2)) a1 a2 a3 (hF.none hk).1 (hR _ _ _ _ _ h F N' O)
theorem sat_setOld {x dx C : Addr} {es : List DictEntry} {ns : List Str} {vs : List Value} {n : Nat} {name : Str} {v : Value} {N₁ : List DictEntry → Led} {Q : Unit → Loc → Led → Prop} (hc : c.Ok w) (ha : attrIn (KF w.params) C name = true) (i : Nat)
    (h1 : (x, instObj C dx) ∈ N) (hF : Flds es ns vs) (hn : ns.Nodup) (hi : ns[i]? = some name) (hz : ns.length ≤ 1000) (hvl : i < vs.length)
    (U : ∀ es', Upd dx (dictOf es n) (dictOf es' n) N (N₁ es')) (h : ∀ es', Flds es' ns (vs.set i v) → Q () m (N₁ es')) :
    Sat w c f (setAttr (.ref x) name v) m N Q := fun s M _ F N' O hR => by
  simp only [attrIn, Bool.and_eq_true, decide_eq_true_eq] at ha
  obtain ⟨⟨⟨⟨⟨⟨a1, a2⟩, a3⟩, a4⟩, a5⟩, a6⟩, a7⟩ := ha
  have h2 := (upd_mem (U es)).1
  obtain ⟨b1, b2⟩ := hF.put (PyData.keyHash w.params name) (s.toks + 1) n i (v := v) hn hi
  refine set_dict F hc.X N' (InstAt.of_news N' (List.mem_append_left _ h1) (List.mem_append_left _ h2)) rfl a5 a6 a7 a2 ?_ (by rw [b2]) (upd_app (U _) (off_ne O h2)) (by rw [b1.len.1]; exact hz) fun h' F' N'' => hR _ _ _ _ _ (h _ b1) F' N'' (off_map (upd_mem (U _)).2 O)
  rw [hF.get i hn hi (List.getElem?_eq_getElem hvl)]; rfl
theorem sat_setNew {x dx C : Addr} {es : List DictEntry} {ns : List Str} {vs : List Value} {n : Nat} {name : Str} {v : Value} {N₁ : List DictEntry → Led} {Q : Unit → Loc → Led → Prop} (hc : c.Ok w) (ha : attrIn (KF w.params) C name = true)
    (h1 : (x, instObj C dx) ∈ N) (hF : Flds es ns vs) (hk : name ∉ ns) (hz : ns.length < 1000)
    (U : ∀ es', Upd dx (dictOf es n) (dictOf es' (n + 1)) N (N₁ es')) (h : ∀ es', Flds es' (ns ++ [name]) (vs ++ [v]) → Q () m (N₁ es')) :
    Sat w c f (setAttr (.ref x) name v) m N Q := fun s M _ F N' O hR => by
  simp only [attrIn, Bool.and_eq_true, decide_eq_true_eq] at ha
  obtain ⟨⟨⟨⟨⟨⟨a1, a2⟩, a3⟩, a4⟩, a5⟩, a6⟩, a7⟩ := ha
  have h2 := (upd_mem (U es)).1
  obtain ⟨b1, b2⟩ := hF.add (PyData.keyHash w.params name) (s.toks + 1) n (v := v) hk
  refine set_dict F hc.X N' (InstAt.of_news N' (List.mem_append_left _ h1) (List.mem_append_left _ h2)) rfl a5 a6 a7 a2 ?_ (by rw [b2]) (upd_app (U _) (off_ne O h2)) (by rw [b1.len.1, List.length_append]; show ns.length + 1 ≤ 1000; omega) fun h' F' N'' => hR _ _ _ _ _ (h _ b1) F' N'' (off_map (upd_mem (U _)).2 O)
  rw [(hF.none hk).1]; rfl

-- a def's call
structure FnAt (w : World) (f : Fn) (nm : Str) (params : Arguments) (body : List Stmt) (dV kV doc pm ct : Value) (an : Option Addr) : Prop where
  look : ∃ oc od osl, (KF w.params).lookup f.a = some ⟨oc, od, .func (fnOf nm f.cn params body f.cs dV kV doc pm an f.cd ct), osl⟩
  code : codeIn (KF w.params) f.cd f.cn = true
theorem sat_fun {f' : Fn} {ks gs' : List Str} {nm : Str} {params : Arguments} {body : List Stmt} {dV kV doc pm ct : Value} {an : Option Addr} {vals bvals : List Value} {n : Nat} {Q : Value → Loc → Led → Prop}
    (hc : c.Ok w) (hf : f.cs.kind = .function) (G : FnG f' ks gs') (hA : FnAt w f' nm params body dV kV doc pm ct an) (hroom : c.dp < recursionLimit)
    (hbind : ∀ s : Shared, (KF w.params).In s.heap → BindsTo s (fnOf nm f'.cn params body f'.cs dV kV doc pm an f'.cd ct) ⟨vals, []⟩ ((ks.take n).zip bvals)) (hl : bvals.length = n) (hn : n ≤ ks.length)
    (hcell : ∀ x ∈ f'.cs.names, x.2 ≠ .cell)
    (h : ∀ c' : Fx, c'.Ok w → c'.dp = c.dp + 1 → c'.un = c.un + 3 → c'.cl = [] → Sat w c' f' (execs body (c'.env f')) (lk ks (bvals.map some ++ List.replicate (ks.length - n) none)) N fun fl _ N' => Q (match fl with | .ret v => v | _ => .none) m N') :
    Sat w c f (call (.ref f'.a) vals) m N Q := fun s M R F N' O hR => by
  obtain ⟨oc, od, osl, hlook⟩ := hA.look
  obtain ⟨mg, mb, T⟩ := hc.T
  refine wpAny_call (callX_plain (cl := []) hc.B F N' T.nolimit (env := c.env f) (outer := c.outer) rfl rfl hf ((hc.X.keeps F.keep) _ _ hlook) rfl (codeRec_of (hc.X.keeps F.keep) hA.code) hroom (hbind s (hc.X.keeps F.keep)) (fun y hy => ?_) (fun g L' h₁ FG F' N'' B' st lt => ?_) hcell G.co G.gen G.kind)
  · exact (G.loc y.1 (List.mem_of_mem_take (List.of_mem_zip hy).1)).1
  · rw [lk_binds n ks bvals G.nd hl hn] at F'
    refine wpAny_mono (h ⟨c.dp + 1, c.un + 3, c.gd, c.env f :: c.outer, c.A f, c.base, g, L', []⟩ ⟨B', hc.X.keeps st, ⟨mg, mb, T.keeps st⟩⟩ rfl rfl rfl _ M _ F' N'' O fun fl m' N₃ h' tk' q F₃ N₃' O₃ => leaveK_ F₃ N₃' fun Fm Nm => hR _ _ _ _ _ q Fm Nm O₃) (fun _ _ x => x) fun _ _ x => x.elim

theorem sat_new {f' : Fn} {C : Addr} {ks gs' : List Str} {nm : Str} {params : Arguments} {body : List Stmt} {dV kV doc pm ct : Value} {an : Option Addr} {vals : List Value} {bvals : Addr → List Value} {n : Nat} {Q : Value → Loc → Led → Prop}
    (hc : c.Ok w) (hf : f.cs.kind = .function) (G : FnG f' ks gs') (hA : FnAt w f' nm params body dV kV doc pm ct an) (hroom : c.dp + 1 < recursionLimit)
    (hm : makesIn (KF w.params) C = true) (hi : findIn (KF w.params) (.ref C) "__init__" = some (some (.ref f'.a))) (hF : isFn (KF w.params) (.ref f'.a) = true)
    (hbind : ∀ x, ∀ s : Shared, (KF w.params).In s.heap → BindsTo s (fnOf nm f'.cn params body f'.cs dV kV doc pm an f'.cd ct) ⟨.ref x :: vals, []⟩ ((ks.take n).zip (bvals x))) (hl : ∀ x, (bvals x).length = n) (hn : n ≤ ks.length)
    (hcell : ∀ x ∈ f'.cs.names, x.2 ≠ .cell)
    (h : ∀ x dx, (∀ p ∈ N, p.1 < dx) → dx < x → ∀ c' : Fx, c'.Ok w → c'.dp = c.dp + 2 → c'.cl = [] →
      Sat w c' f' (execs body (c'.env f')) (lk ks ((bvals x).map some ++ List.replicate (ks.length - n) none)) ((x, instObj C dx) :: (dx, dictOf [] 0) :: N) fun fl _ N' => fl = .next ∧ Q (.ref x) m N') :
    Sat w c f (call (.ref C) vals) m N Q := fun s M R F N' O hR => by
  obtain ⟨oc, od, osl, hlook⟩ := hA.look
  obtain ⟨mg, mb, T⟩ := hc.T
  refine call_cls F hc.X N' hm hi hF fun x dx h' F₁ N₁ lt1 lt2 => ?_
  have O₁ : Off ((x, instObj C dx) :: (dx, dictOf [] 0) :: N) M := by
    refine Off.cons (Off.cons O fun p hp => lt1 p hp) fun p hp => ?_
    rcases List.mem_append.mp hp with hp | hp
    · rcases List.mem_cons.mp hp with rfl | hp
      · exact lt2
      · exact Nat.lt_trans (lt1 p (List.mem_append_left _ hp)) lt2
    · exact Nat.lt_trans (lt1 p (List.mem_append_right _ hp)) lt2
  refine callX_plain (cl := []) (news := ((x, instObj C dx) :: (dx, dictOf [] 0) :: N) ++ M) hc.B F₁ N₁ T.nolimit (env := c.env f) (outer := c.outer) rfl rfl hf ((hc.X.keeps F₁.keep) _ _ hlook) rfl (codeRec_of (hc.X.keeps F₁.keep) hA.code) hroom (hbind x _ (hc.X.keeps F₁.keep)) (fun y hy => ?_) (fun g L' h₁ FG F' N'' B' st lt => ?_) hcell G.co G.gen G.kind
  · exact (G.loc y.1 (List.mem_of_mem_take (List.of_mem_zip hy).1)).1
  · rw [lk_binds n ks (bvals x) G.nd (hl x) hn] at F'
    refine wpAny_mono (h x dx (fun p hp => lt1 p (List.mem_append_left _ hp)) lt2 ⟨c.dp + 2, ((c.A f).under (.builtin "type.__call__" ⟨.ref C :: vals, []⟩)).units + 3, ((c.A f).under (.builtin "type.__call__" ⟨.ref C :: vals, []⟩)).guards, c.env f :: c.outer, (c.A f).under (.builtin "type.__call__" ⟨.ref C :: vals, []⟩), c.base, g, L', []⟩ ⟨B', hc.X.keeps st, ⟨mg, mb, T.keeps st⟩⟩ rfl rfl _ M _ F' N'' O₁ fun fl m' N₃ h' tk' q F₃ N₃' O₃ => ?_) (fun _ _ x => x) fun _ _ x => x.elim
    obtain ⟨rfl, q⟩ := q
    exact leaveK_ F₃ N₃' fun Fm Nm => ⟨rfl, hR _ _ _ _ _ q Fm Nm O₃⟩
end
theorem gAll (P : Params) : ([s "number", s "call_of", s "same_kernel", s "same_code", s "called_name", s "is_formula_call", s "formula_parts", s "constant_whole", s "union", s "crossed", s "joined", s "members", s "by_degree", s "expand", s "term_language", s "right_side", s "formula_of", s "_law_figure", s "_law_side", s "_law_two", s "_law_row", s "_law_same", s "Vector", s "Symbol", s "Call", s "Terms", s "TermReader"].map fun x => nsIn (KF P) mainGlobals x) = [133, 140, 182, 203, 259, 266, 273, 280, 287, 294, 301, 308, 315, 389, 396, 401, 408, 415, 422, 429, 434, 441, 78, 99, 121, 248, 379].map fun a => some (some (Value.ref a)) := by kernel_rfl
theorem gnumber (P : Params) : nsIn (KF P) mainGlobals (s "number") = some (some (.ref 133)) := Option.some.inj (congrArg (fun l => l[0]?) (gAll P))
theorem gcall_of (P : Params) : nsIn (KF P) mainGlobals (s "call_of") = some (some (.ref 140)) := Option.some.inj (congrArg (fun l => l[1]?) (gAll P))
theorem gsame_kernel (P : Params) : nsIn (KF P) mainGlobals (s "same_kernel") = some (some (.ref 182)) := Option.some.inj (congrArg (fun l => l[2]?) (gAll P))
theorem gsame_code (P : Params) : nsIn (KF P) mainGlobals (s "same_code") = some (some (.ref 203)) := Option.some.inj (congrArg (fun l => l[3]?) (gAll P))
theorem gcalled_name (P : Params) : nsIn (KF P) mainGlobals (s "called_name") = some (some (.ref 259)) := Option.some.inj (congrArg (fun l => l[4]?) (gAll P))
theorem gis_formula_call (P : Params) : nsIn (KF P) mainGlobals (s "is_formula_call") = some (some (.ref 266)) := Option.some.inj (congrArg (fun l => l[5]?) (gAll P))
theorem gformula_parts (P : Params) : nsIn (KF P) mainGlobals (s "formula_parts") = some (some (.ref 273)) := Option.some.inj (congrArg (fun l => l[6]?) (gAll P))
theorem gconstant_whole (P : Params) : nsIn (KF P) mainGlobals (s "constant_whole") = some (some (.ref 280)) := Option.some.inj (congrArg (fun l => l[7]?) (gAll P))
theorem gunion (P : Params) : nsIn (KF P) mainGlobals (s "union") = some (some (.ref 287)) := Option.some.inj (congrArg (fun l => l[8]?) (gAll P))
theorem gcrossed (P : Params) : nsIn (KF P) mainGlobals (s "crossed") = some (some (.ref 294)) := Option.some.inj (congrArg (fun l => l[9]?) (gAll P))
theorem gjoined (P : Params) : nsIn (KF P) mainGlobals (s "joined") = some (some (.ref 301)) := Option.some.inj (congrArg (fun l => l[10]?) (gAll P))
theorem gmembers (P : Params) : nsIn (KF P) mainGlobals (s "members") = some (some (.ref 308)) := Option.some.inj (congrArg (fun l => l[11]?) (gAll P))
theorem gby_degree (P : Params) : nsIn (KF P) mainGlobals (s "by_degree") = some (some (.ref 315)) := Option.some.inj (congrArg (fun l => l[12]?) (gAll P))
theorem gexpand (P : Params) : nsIn (KF P) mainGlobals (s "expand") = some (some (.ref 389)) := Option.some.inj (congrArg (fun l => l[13]?) (gAll P))
theorem gterm_language (P : Params) : nsIn (KF P) mainGlobals (s "term_language") = some (some (.ref 396)) := Option.some.inj (congrArg (fun l => l[14]?) (gAll P))
theorem gright_side (P : Params) : nsIn (KF P) mainGlobals (s "right_side") = some (some (.ref 401)) := Option.some.inj (congrArg (fun l => l[15]?) (gAll P))
theorem gformula_of (P : Params) : nsIn (KF P) mainGlobals (s "formula_of") = some (some (.ref 408)) := Option.some.inj (congrArg (fun l => l[16]?) (gAll P))
theorem g_law_figure (P : Params) : nsIn (KF P) mainGlobals (s "_law_figure") = some (some (.ref 415)) := Option.some.inj (congrArg (fun l => l[17]?) (gAll P))
theorem g_law_side (P : Params) : nsIn (KF P) mainGlobals (s "_law_side") = some (some (.ref 422)) := Option.some.inj (congrArg (fun l => l[18]?) (gAll P))
theorem g_law_two (P : Params) : nsIn (KF P) mainGlobals (s "_law_two") = some (some (.ref 429)) := Option.some.inj (congrArg (fun l => l[19]?) (gAll P))
theorem g_law_row (P : Params) : nsIn (KF P) mainGlobals (s "_law_row") = some (some (.ref 434)) := Option.some.inj (congrArg (fun l => l[20]?) (gAll P))
theorem g_law_same (P : Params) : nsIn (KF P) mainGlobals (s "_law_same") = some (some (.ref 441)) := Option.some.inj (congrArg (fun l => l[21]?) (gAll P))
theorem gVector (P : Params) : nsIn (KF P) mainGlobals (s "Vector") = some (some (.ref 78)) := Option.some.inj (congrArg (fun l => l[22]?) (gAll P))
theorem gSymbol (P : Params) : nsIn (KF P) mainGlobals (s "Symbol") = some (some (.ref 99)) := Option.some.inj (congrArg (fun l => l[23]?) (gAll P))
theorem gCall (P : Params) : nsIn (KF P) mainGlobals (s "Call") = some (some (.ref 121)) := Option.some.inj (congrArg (fun l => l[24]?) (gAll P))
theorem gTerms (P : Params) : nsIn (KF P) mainGlobals (s "Terms") = some (some (.ref 248)) := Option.some.inj (congrArg (fun l => l[25]?) (gAll P))
theorem gTermReader (P : Params) : nsIn (KF P) mainGlobals (s "TermReader") = some (some (.ref 379)) := Option.some.inj (congrArg (fun l => l[26]?) (gAll P))
theorem b_isinstance (P : Params) : nsIn (KF P) mainGlobals (s "isinstance") = some none ∧ bootBuiltins (s "isinstance") = some (.builtin "isinstance") ∧ s "isinstance" ≠ "__name__" := ⟨by kernel_rfl, boot_isinstance, by decide +kernel⟩
theorem b_len (P : Params) : nsIn (KF P) mainGlobals (s "len") = some none ∧ bootBuiltins (s "len") = some (.builtin "len") ∧ s "len" ≠ "__name__" := ⟨by kernel_rfl, by decide +kernel, by decide +kernel⟩
theorem b_abs (P : Params) : nsIn (KF P) mainGlobals (s "abs") = some none ∧ bootBuiltins (s "abs") = some (.builtin "abs") ∧ s "abs" ≠ "__name__" := ⟨by kernel_rfl, boot_abs, by decide +kernel⟩
theorem b_range (P : Params) : nsIn (KF P) mainGlobals (s "range") = some none ∧ bootBuiltins (s "range") = some (.type "range") ∧ s "range" ≠ "__name__" := ⟨by kernel_rfl, boot_range, by decide +kernel⟩
theorem b_list (P : Params) : nsIn (KF P) mainGlobals (s "list") = some none ∧ bootBuiltins (s "list") = some (.type "list") ∧ s "list" ≠ "__name__" := ⟨by kernel_rfl, boot_list, by decide +kernel⟩
theorem b_tuple (P : Params) : nsIn (KF P) mainGlobals (s "tuple") = some none ∧ bootBuiltins (s "tuple") = some (.type "tuple") ∧ s "tuple" ≠ "__name__" := ⟨by kernel_rfl, boot_tuple, by decide +kernel⟩
theorem b_min (P : Params) : nsIn (KF P) mainGlobals (s "min") = some none ∧ bootBuiltins (s "min") = some (.builtin "min") ∧ s "min" ≠ "__name__" := ⟨by kernel_rfl, boot_min, by decide +kernel⟩
theorem b_sorted (P : Params) : nsIn (KF P) mainGlobals (s "sorted") = some none ∧ bootBuiltins (s "sorted") = some (.builtin "sorted") ∧ s "sorted" ≠ "__name__" := ⟨by kernel_rfl, boot_sorted, by decide +kernel⟩
theorem aAll (P : Params) : ([(78, s "kind"), (78, s "items"), (78, s "attrs"), (78, s "shared"), (78, s "loose"), (99, s "kind"), (99, s "name"), (99, s "attrs"), (121, s "kind"), (121, s "items"), (121, s "tags"), (121, s "attrs"), (121, s "code"), (248, s "response"), (248, s "variables"), (248, s "factors"), (248, s "intercept"), (248, s "offsets"), (379, s "response"), (379, s "names"), (379, s "variables"), (379, s "intercept"), (379, s "adding")].map fun q => attrIn (KF P) q.1 q.2) = List.replicate 23 true := by kernel_rfl
theorem aVector_kind (P : Params) : attrIn (KF P) 78 (s "kind") = true := Option.some.inj (congrArg (fun l => l[0]?) (aAll P))
theorem aVector_items (P : Params) : attrIn (KF P) 78 (s "items") = true := Option.some.inj (congrArg (fun l => l[1]?) (aAll P))
theorem aVector_attrs (P : Params) : attrIn (KF P) 78 (s "attrs") = true := Option.some.inj (congrArg (fun l => l[2]?) (aAll P))
theorem aVector_shared (P : Params) : attrIn (KF P) 78 (s "shared") = true := Option.some.inj (congrArg (fun l => l[3]?) (aAll P))
theorem aVector_loose (P : Params) : attrIn (KF P) 78 (s "loose") = true := Option.some.inj (congrArg (fun l => l[4]?) (aAll P))
theorem aSymbol_kind (P : Params) : attrIn (KF P) 99 (s "kind") = true := Option.some.inj (congrArg (fun l => l[5]?) (aAll P))
theorem aSymbol_name (P : Params) : attrIn (KF P) 99 (s "name") = true := Option.some.inj (congrArg (fun l => l[6]?) (aAll P))
theorem aSymbol_attrs (P : Params) : attrIn (KF P) 99 (s "attrs") = true := Option.some.inj (congrArg (fun l => l[7]?) (aAll P))
theorem aCall_kind (P : Params) : attrIn (KF P) 121 (s "kind") = true := Option.some.inj (congrArg (fun l => l[8]?) (aAll P))
theorem aCall_items (P : Params) : attrIn (KF P) 121 (s "items") = true := Option.some.inj (congrArg (fun l => l[9]?) (aAll P))
theorem aCall_tags (P : Params) : attrIn (KF P) 121 (s "tags") = true := Option.some.inj (congrArg (fun l => l[10]?) (aAll P))
theorem aCall_attrs (P : Params) : attrIn (KF P) 121 (s "attrs") = true := Option.some.inj (congrArg (fun l => l[11]?) (aAll P))
theorem aCall_code (P : Params) : attrIn (KF P) 121 (s "code") = true := Option.some.inj (congrArg (fun l => l[12]?) (aAll P))
theorem aTerms_response (P : Params) : attrIn (KF P) 248 (s "response") = true := Option.some.inj (congrArg (fun l => l[13]?) (aAll P))
theorem aTerms_variables (P : Params) : attrIn (KF P) 248 (s "variables") = true := Option.some.inj (congrArg (fun l => l[14]?) (aAll P))
theorem aTerms_factors (P : Params) : attrIn (KF P) 248 (s "factors") = true := Option.some.inj (congrArg (fun l => l[15]?) (aAll P))
theorem aTerms_intercept (P : Params) : attrIn (KF P) 248 (s "intercept") = true := Option.some.inj (congrArg (fun l => l[16]?) (aAll P))
theorem aTerms_offsets (P : Params) : attrIn (KF P) 248 (s "offsets") = true := Option.some.inj (congrArg (fun l => l[17]?) (aAll P))
theorem aTermReader_response (P : Params) : attrIn (KF P) 379 (s "response") = true := Option.some.inj (congrArg (fun l => l[18]?) (aAll P))
theorem aTermReader_names (P : Params) : attrIn (KF P) 379 (s "names") = true := Option.some.inj (congrArg (fun l => l[19]?) (aAll P))
theorem aTermReader_variables (P : Params) : attrIn (KF P) 379 (s "variables") = true := Option.some.inj (congrArg (fun l => l[20]?) (aAll P))
theorem aTermReader_intercept (P : Params) : attrIn (KF P) 379 (s "intercept") = true := Option.some.inj (congrArg (fun l => l[21]?) (aAll P))
theorem aTermReader_adding (P : Params) : attrIn (KF P) 379 (s "adding") = true := Option.some.inj (congrArg (fun l => l[22]?) (aAll P))
theorem mAll (P : Params) : ([(379, s "variable", 336), (379, s "constant", 343), (379, s "taken_away", 355), (379, s "power", 362), (379, s "operator", 369), (379, s "read", 376)].map fun q => methIn (KF P) q.1 q.2.1 q.2.2) = List.replicate 6 true := by kernel_rfl
theorem m_variable (P : Params) : methIn (KF P) 379 (s "variable") 336 = true := Option.some.inj (congrArg (fun l => l[0]?) (mAll P))
theorem m_constant (P : Params) : methIn (KF P) 379 (s "constant") 343 = true := Option.some.inj (congrArg (fun l => l[1]?) (mAll P))
theorem m_taken_away (P : Params) : methIn (KF P) 379 (s "taken_away") 355 = true := Option.some.inj (congrArg (fun l => l[2]?) (mAll P))
theorem m_power (P : Params) : methIn (KF P) 379 (s "power") 362 = true := Option.some.inj (congrArg (fun l => l[3]?) (mAll P))
theorem m_operator (P : Params) : methIn (KF P) 379 (s "operator") 369 = true := Option.some.inj (congrArg (fun l => l[4]?) (mAll P))
theorem m_read (P : Params) : methIn (KF P) 379 (s "read") 376 = true := Option.some.inj (congrArg (fun l => l[5]?) (mAll P))
theorem mkVector (P : Params) : makesIn (KF P) 78 = true ∧ findIn (KF P) (.ref 78) "__init__" = some (some (.ref 68)) ∧ isFn (KF P) (.ref 68) = true := ⟨by kernel_rfl, by kernel_rfl, by kernel_rfl⟩
noncomputable def fsVector : List Str := [s "kind", s "items", s "attrs", s "shared", s "loose"]
theorem ndVector : fsVector.Nodup := by decide +kernel
theorem mkSymbol (P : Params) : makesIn (KF P) 99 = true ∧ findIn (KF P) (.ref 99) "__init__" = some (some (.ref 96)) ∧ isFn (KF P) (.ref 96) = true := ⟨by kernel_rfl, by kernel_rfl, by kernel_rfl⟩
noncomputable def fsSymbol : List Str := [s "kind", s "name", s "attrs"]
theorem ndSymbol : fsSymbol.Nodup := by decide +kernel
theorem mkCall (P : Params) : makesIn (KF P) 121 = true ∧ findIn (KF P) (.ref 121) "__init__" = some (some (.ref 118)) ∧ isFn (KF P) (.ref 118) = true := ⟨by kernel_rfl, by kernel_rfl, by kernel_rfl⟩
noncomputable def fsCall : List Str := [s "kind", s "items", s "tags", s "attrs", s "code"]
theorem ndCall : fsCall.Nodup := by decide +kernel
theorem mkTerms (P : Params) : makesIn (KF P) 248 = true ∧ findIn (KF P) (.ref 248) "__init__" = some (some (.ref 245)) ∧ isFn (KF P) (.ref 245) = true := ⟨by kernel_rfl, by kernel_rfl, by kernel_rfl⟩
noncomputable def fsTerms : List Str := [s "response", s "variables", s "factors", s "intercept", s "offsets"]
theorem ndTerms : fsTerms.Nodup := by decide +kernel
theorem mkTermReader (P : Params) : makesIn (KF P) 379 = true ∧ findIn (KF P) (.ref 379) "__init__" = some (some (.ref 329)) ∧ isFn (KF P) (.ref 329) = true := ⟨by kernel_rfl, by kernel_rfl, by kernel_rfl⟩
noncomputable def fsTermReader : List Str := [s "response", s "names", s "variables", s "intercept", s "adding"]
theorem ndTermReader : fsTermReader.Nodup := by decide +kernel
theorem kAll (P : Params) : ([133, 140, 182, 203, 259, 266, 273, 280, 287, 294, 301, 308, 315, 389, 396, 401, 408, 415, 422, 429, 434, 441, 78, 99, 121, 248, 379].map fun a => keepIn (KF P) (.ref a)) = List.replicate 27 true := by kernel_rfl
theorem knumber (P : Params) : keepIn (KF P) (.ref 133) = true := Option.some.inj (congrArg (fun l => l[0]?) (kAll P))
theorem kcall_of (P : Params) : keepIn (KF P) (.ref 140) = true := Option.some.inj (congrArg (fun l => l[1]?) (kAll P))
theorem ksame_kernel (P : Params) : keepIn (KF P) (.ref 182) = true := Option.some.inj (congrArg (fun l => l[2]?) (kAll P))
theorem ksame_code (P : Params) : keepIn (KF P) (.ref 203) = true := Option.some.inj (congrArg (fun l => l[3]?) (kAll P))
theorem kcalled_name (P : Params) : keepIn (KF P) (.ref 259) = true := Option.some.inj (congrArg (fun l => l[4]?) (kAll P))
theorem kis_formula_call (P : Params) : keepIn (KF P) (.ref 266) = true := Option.some.inj (congrArg (fun l => l[5]?) (kAll P))
theorem kformula_parts (P : Params) : keepIn (KF P) (.ref 273) = true := Option.some.inj (congrArg (fun l => l[6]?) (kAll P))
theorem kconstant_whole (P : Params) : keepIn (KF P) (.ref 280) = true := Option.some.inj (congrArg (fun l => l[7]?) (kAll P))
theorem kunion (P : Params) : keepIn (KF P) (.ref 287) = true := Option.some.inj (congrArg (fun l => l[8]?) (kAll P))
theorem kcrossed (P : Params) : keepIn (KF P) (.ref 294) = true := Option.some.inj (congrArg (fun l => l[9]?) (kAll P))
theorem kjoined (P : Params) : keepIn (KF P) (.ref 301) = true := Option.some.inj (congrArg (fun l => l[10]?) (kAll P))
theorem kmembers (P : Params) : keepIn (KF P) (.ref 308) = true := Option.some.inj (congrArg (fun l => l[11]?) (kAll P))
theorem kby_degree (P : Params) : keepIn (KF P) (.ref 315) = true := Option.some.inj (congrArg (fun l => l[12]?) (kAll P))
theorem kexpand (P : Params) : keepIn (KF P) (.ref 389) = true := Option.some.inj (congrArg (fun l => l[13]?) (kAll P))
theorem kterm_language (P : Params) : keepIn (KF P) (.ref 396) = true := Option.some.inj (congrArg (fun l => l[14]?) (kAll P))
theorem kright_side (P : Params) : keepIn (KF P) (.ref 401) = true := Option.some.inj (congrArg (fun l => l[15]?) (kAll P))
theorem kformula_of (P : Params) : keepIn (KF P) (.ref 408) = true := Option.some.inj (congrArg (fun l => l[16]?) (kAll P))
theorem k_law_figure (P : Params) : keepIn (KF P) (.ref 415) = true := Option.some.inj (congrArg (fun l => l[17]?) (kAll P))
theorem k_law_side (P : Params) : keepIn (KF P) (.ref 422) = true := Option.some.inj (congrArg (fun l => l[18]?) (kAll P))
theorem k_law_two (P : Params) : keepIn (KF P) (.ref 429) = true := Option.some.inj (congrArg (fun l => l[19]?) (kAll P))
theorem k_law_row (P : Params) : keepIn (KF P) (.ref 434) = true := Option.some.inj (congrArg (fun l => l[20]?) (kAll P))
theorem k_law_same (P : Params) : keepIn (KF P) (.ref 441) = true := Option.some.inj (congrArg (fun l => l[21]?) (kAll P))
theorem kVector (P : Params) : keepIn (KF P) (.ref 78) = true := Option.some.inj (congrArg (fun l => l[22]?) (kAll P))
theorem kSymbol (P : Params) : keepIn (KF P) (.ref 99) = true := Option.some.inj (congrArg (fun l => l[23]?) (kAll P))
theorem kCall (P : Params) : keepIn (KF P) (.ref 121) = true := Option.some.inj (congrArg (fun l => l[24]?) (kAll P))
theorem kTerms (P : Params) : keepIn (KF P) (.ref 248) = true := Option.some.inj (congrArg (fun l => l[25]?) (kAll P))
theorem kTermReader (P : Params) : keepIn (KF P) (.ref 379) = true := Option.some.inj (congrArg (fun l => l[26]?) (kAll P))
noncomputable def fn_vecI : Fn := ⟨s "Vector.__init__", scoOf (subIn (stIn P0 5) 0), 68, .ref 67⟩
noncomputable abbrev bd_vecI : List Stmt := bodOf (subIn (stIn P0 5) 0)
theorem G_vecI : FnG fn_vecI [s "self", s "kind", s "items", s "attrs"] [] := fnG_of (by kernel_rfl)
theorem A_vecI (w : World) : FnAt w fn_vecI (s "__init__") (parOf (subIn (stIn P0 5) 0)) bd_vecI (.ref 61) .none .none (.str (s "vectorcove.values") 241) .none none := ⟨⟨.type "function", none, #[], by kernel_rfl⟩, by kernel_rfl⟩
theorem nc_vecI : ∀ x ∈ fn_vecI.cs.names, x.2 ≠ .cell := fun x hx => of_decide_eq_true (List.all_eq_true.mp (show (fn_vecI.cs.names.all fun x => decide (x.2 ≠ .cell)) = true by kernel_rfl) x hx)
theorem new_Vector {w : World} {c : Fx} {f : Fn} {m : Loc} {N : Led} {v_kind v_items : Value} {Q : Value → Loc → Led → Prop} (hc : c.Ok w) (hf : f.cs.kind = .function) (hroom : c.dp + 1 < recursionLimit)
    (h : ∀ x dx, (∀ p ∈ N, p.1 < dx) → dx < x → ∀ c' : Fx, c'.Ok w → c'.dp = c.dp + 2 → c'.cl = [] →
      Sat w c' fn_vecI (execs bd_vecI (c'.env fn_vecI)) (lk [s "self", s "kind", s "items", s "attrs"] [some (.ref x), some v_kind, some v_items, some (.none)]) ((x, instObj 78 dx) :: (dx, dictOf [] 0) :: N) fun fl _ N' => fl = .next ∧ Q (.ref x) m N') :
    Sat w c f (call (.ref 78) [v_kind, v_items]) m N Q :=
  sat_new (f' := fn_vecI) (bvals := fun x => [.ref x, v_kind, v_items, .none]) (n := 4) hc hf G_vecI (A_vecI w) hroom (mkVector _).1 (mkVector _).2.1 (mkVector _).2.2 (fun x s hs => binds_K hs rfl (show (KF w.params).lookup 61 = some (o61 w.params) by kernel_rfl) rfl rfl (by kernel_rfl)) (fun _ => rfl) (by decide) nc_vecI h
noncomputable def fn_symI : Fn := ⟨s "Symbol.__init__", scoOf (subIn (stIn P0 6) 0), 96, .ref 95⟩
noncomputable abbrev bd_symI : List Stmt := bodOf (subIn (stIn P0 6) 0)
theorem G_symI : FnG fn_symI [s "self", s "name"] [] := fnG_of (by kernel_rfl)
theorem A_symI (w : World) : FnAt w fn_symI (s "__init__") (parOf (subIn (stIn P0 6) 0)) bd_symI .none .none .none (.str (s "vectorcove.values") 241) .none none := ⟨⟨.type "function", none, #[], by kernel_rfl⟩, by kernel_rfl⟩
theorem nc_symI : ∀ x ∈ fn_symI.cs.names, x.2 ≠ .cell := fun x hx => of_decide_eq_true (List.all_eq_true.mp (show (fn_symI.cs.names.all fun x => decide (x.2 ≠ .cell)) = true by kernel_rfl) x hx)
theorem new_Symbol {w : World} {c : Fx} {f : Fn} {m : Loc} {N : Led} {v_name : Value} {Q : Value → Loc → Led → Prop} (hc : c.Ok w) (hf : f.cs.kind = .function) (hroom : c.dp + 1 < recursionLimit)
    (h : ∀ x dx, (∀ p ∈ N, p.1 < dx) → dx < x → ∀ c' : Fx, c'.Ok w → c'.dp = c.dp + 2 → c'.cl = [] →
      Sat w c' fn_symI (execs bd_symI (c'.env fn_symI)) (lk [s "self", s "name"] [some (.ref x), some v_name]) ((x, instObj 99 dx) :: (dx, dictOf [] 0) :: N) fun fl _ N' => fl = .next ∧ Q (.ref x) m N') :
    Sat w c f (call (.ref 99) [v_name]) m N Q :=
  sat_new (f' := fn_symI) (bvals := fun x => [.ref x, v_name]) (n := 2) hc hf G_symI (A_symI w) hroom (mkSymbol _).1 (mkSymbol _).2.1 (mkSymbol _).2.2 (fun x s hs => BindsTo.of_eq (by kernel_rfl)) (fun _ => rfl) (by decide) nc_symI h
noncomputable def fn_callI : Fn := ⟨s "Call.__init__", scoOf (subIn (stIn P0 7) 0), 118, .ref 117⟩
noncomputable abbrev bd_callI : List Stmt := bodOf (subIn (stIn P0 7) 0)
theorem G_callI : FnG fn_callI [s "self", s "items", s "tags", s "attrs"] [] := fnG_of (by kernel_rfl)
theorem A_callI (w : World) : FnAt w fn_callI (s "__init__") (parOf (subIn (stIn P0 7) 0)) bd_callI (.ref 111) .none .none (.str (s "vectorcove.values") 241) .none none := ⟨⟨.type "function", none, #[], by kernel_rfl⟩, by kernel_rfl⟩
theorem nc_callI : ∀ x ∈ fn_callI.cs.names, x.2 ≠ .cell := fun x hx => of_decide_eq_true (List.all_eq_true.mp (show (fn_callI.cs.names.all fun x => decide (x.2 ≠ .cell)) = true by kernel_rfl) x hx)
theorem new_Call {w : World} {c : Fx} {f : Fn} {m : Loc} {N : Led} {v_items v_tags : Value} {Q : Value → Loc → Led → Prop} (hc : c.Ok w) (hf : f.cs.kind = .function) (hroom : c.dp + 1 < recursionLimit)
    (h : ∀ x dx, (∀ p ∈ N, p.1 < dx) → dx < x → ∀ c' : Fx, c'.Ok w → c'.dp = c.dp + 2 → c'.cl = [] →
      Sat w c' fn_callI (execs bd_callI (c'.env fn_callI)) (lk [s "self", s "items", s "tags", s "attrs"] [some (.ref x), some v_items, some v_tags, some (.none)]) ((x, instObj 121 dx) :: (dx, dictOf [] 0) :: N) fun fl _ N' => fl = .next ∧ Q (.ref x) m N') :
    Sat w c f (call (.ref 121) [v_items, v_tags]) m N Q :=
  sat_new (f' := fn_callI) (bvals := fun x => [.ref x, v_items, v_tags, .none]) (n := 4) hc hf G_callI (A_callI w) hroom (mkCall _).1 (mkCall _).2.1 (mkCall _).2.2 (fun x s hs => binds_K hs rfl (show (KF w.params).lookup 111 = some (o111 w.params) by kernel_rfl) rfl rfl (by kernel_rfl)) (fun _ => rfl) (by decide) nc_callI h
noncomputable def fn_termsI : Fn := ⟨s "Terms.__init__", scoOf (subIn (stIn P0 26) 0), 245, .ref 244⟩
noncomputable abbrev bd_termsI : List Stmt := bodOf (subIn (stIn P0 26) 0)
theorem G_termsI : FnG fn_termsI [s "self", s "response", s "variables", s "factors", s "intercept", s "offsets"] [] := fnG_of (by kernel_rfl)
theorem A_termsI (w : World) : FnAt w fn_termsI (s "__init__") (parOf (subIn (stIn P0 26) 0)) bd_termsI .none .none .none (.str (s "vectorcove.terms") 497) .none none := ⟨⟨.type "function", none, #[], by kernel_rfl⟩, by kernel_rfl⟩
theorem nc_termsI : ∀ x ∈ fn_termsI.cs.names, x.2 ≠ .cell := fun x hx => of_decide_eq_true (List.all_eq_true.mp (show (fn_termsI.cs.names.all fun x => decide (x.2 ≠ .cell)) = true by kernel_rfl) x hx)
theorem new_Terms {w : World} {c : Fx} {f : Fn} {m : Loc} {N : Led} {v_response v_variables v_factors v_intercept v_offsets : Value} {Q : Value → Loc → Led → Prop} (hc : c.Ok w) (hf : f.cs.kind = .function) (hroom : c.dp + 1 < recursionLimit)
    (h : ∀ x dx, (∀ p ∈ N, p.1 < dx) → dx < x → ∀ c' : Fx, c'.Ok w → c'.dp = c.dp + 2 → c'.cl = [] →
      Sat w c' fn_termsI (execs bd_termsI (c'.env fn_termsI)) (lk [s "self", s "response", s "variables", s "factors", s "intercept", s "offsets"] [some (.ref x), some v_response, some v_variables, some v_factors, some v_intercept, some v_offsets]) ((x, instObj 248 dx) :: (dx, dictOf [] 0) :: N) fun fl _ N' => fl = .next ∧ Q (.ref x) m N') :
    Sat w c f (call (.ref 248) [v_response, v_variables, v_factors, v_intercept, v_offsets]) m N Q :=
  sat_new (f' := fn_termsI) (bvals := fun x => [.ref x, v_response, v_variables, v_factors, v_intercept, v_offsets]) (n := 6) hc hf G_termsI (A_termsI w) hroom (mkTerms _).1 (mkTerms _).2.1 (mkTerms _).2.2 (fun x s hs => BindsTo.of_eq (by kernel_rfl)) (fun _ => rfl) (by decide) nc_termsI h
noncomputable def fn_rdI : Fn := ⟨s "TermReader.__init__", scoOf (subIn (stIn P0 36) 0), 329, .ref 328⟩
noncomputable abbrev bd_rdI : List Stmt := bodOf (subIn (stIn P0 36) 0)
theorem G_rdI : FnG fn_rdI [s "self", s "response", s "names"] [] := fnG_of (by kernel_rfl)
theorem A_rdI (w : World) : FnAt w fn_rdI (s "__init__") (parOf (subIn (stIn P0 36) 0)) bd_rdI .none .none .none (.str (s "vectorcove.terms") 497) .none none := ⟨⟨.type "function", none, #[], by kernel_rfl⟩, by kernel_rfl⟩
theorem nc_rdI : ∀ x ∈ fn_rdI.cs.names, x.2 ≠ .cell := fun x hx => of_decide_eq_true (List.all_eq_true.mp (show (fn_rdI.cs.names.all fun x => decide (x.2 ≠ .cell)) = true by kernel_rfl) x hx)
theorem new_TermReader {w : World} {c : Fx} {f : Fn} {m : Loc} {N : Led} {v_response v_names : Value} {Q : Value → Loc → Led → Prop} (hc : c.Ok w) (hf : f.cs.kind = .function) (hroom : c.dp + 1 < recursionLimit)
    (h : ∀ x dx, (∀ p ∈ N, p.1 < dx) → dx < x → ∀ c' : Fx, c'.Ok w → c'.dp = c.dp + 2 → c'.cl = [] →
      Sat w c' fn_rdI (execs bd_rdI (c'.env fn_rdI)) (lk [s "self", s "response", s "names"] [some (.ref x), some v_response, some v_names]) ((x, instObj 379 dx) :: (dx, dictOf [] 0) :: N) fun fl _ N' => fl = .next ∧ Q (.ref x) m N') :
    Sat w c f (call (.ref 379) [v_response, v_names]) m N Q :=
  sat_new (f' := fn_rdI) (bvals := fun x => [.ref x, v_response, v_names]) (n := 3) hc hf G_rdI (A_rdI w) hroom (mkTermReader _).1 (mkTermReader _).2.1 (mkTermReader _).2.2 (fun x s hs => BindsTo.of_eq (by kernel_rfl)) (fun _ => rfl) (by decide) nc_rdI h
noncomputable def fn_number : Fn := ⟨s "number", scoOf (stIn P0 8), 133, .ref 132⟩
noncomputable abbrev bd_number : List Stmt := bodOf (stIn P0 8)
theorem G_number : FnG fn_number [s "n", s "d", s "a", s "b"] [s "abs", s "Vector"] := fnG_of (by kernel_rfl)
theorem A_number (w : World) : FnAt w fn_number (s "number") (parOf (stIn P0 8)) bd_number (.ref 126) .none .none (.str (s "vectorcove.values") 241) .none none := ⟨⟨.type "function", none, #[], by kernel_rfl⟩, by kernel_rfl⟩
theorem nc_number : ∀ x ∈ fn_number.cs.names, x.2 ≠ .cell := fun x hx => of_decide_eq_true (List.all_eq_true.mp (show (fn_number.cs.names.all fun x => decide (x.2 ≠ .cell)) = true by kernel_rfl) x hx)
theorem call_number {w : World} {c : Fx} {f : Fn} {m : Loc} {N : Led} {v_n : Value} {Q : Value → Loc → Led → Prop} (hc : c.Ok w) (hf : f.cs.kind = .function) (hroom : c.dp < recursionLimit)
    (h : ∀ c' : Fx, c'.Ok w → c'.dp = c.dp + 1 → c'.un = c.un + 3 → c'.cl = [] → Sat w c' fn_number (execs bd_number (c'.env fn_number)) (lk [s "n", s "d", s "a", s "b"] [some v_n, some (.int 1 351), none, none]) N fun fl _ N' => Q (match fl with | .ret v => v | _ => .none) m N') :
    Sat w c f (call (.ref 133) [v_n]) m N Q :=
  sat_fun (f' := fn_number) (bvals := [v_n, .int 1 351]) (n := 2) hc hf G_number (A_number w) hroom (fun s hs => binds_K hs rfl (show (KF w.params).lookup 126 = some (o126 w.params) by kernel_rfl) rfl rfl (by kernel_rfl)) rfl (by decide) nc_number h
noncomputable def fn_call_of : Fn := ⟨s "call_of", scoOf (stIn P0 9), 140, .ref 139⟩
noncomputable abbrev bd_call_of : List Stmt := bodOf (stIn P0 9)
theorem G_call_of : FnG fn_call_of [s "name", s "args", s "items"] [s "Symbol", s "list", s "Call", s "len"] := fnG_of (by kernel_rfl)
theorem A_call_of (w : World) : FnAt w fn_call_of (s "call_of") (parOf (stIn P0 9)) bd_call_of .none .none .none (.str (s "vectorcove.values") 241) .none none := ⟨⟨.type "function", none, #[], by kernel_rfl⟩, by kernel_rfl⟩
theorem nc_call_of : ∀ x ∈ fn_call_of.cs.names, x.2 ≠ .cell := fun x hx => of_decide_eq_true (List.all_eq_true.mp (show (fn_call_of.cs.names.all fun x => decide (x.2 ≠ .cell)) = true by kernel_rfl) x hx)
theorem call_call_of {w : World} {c : Fx} {f : Fn} {m : Loc} {N : Led} {v_name v_args : Value} {Q : Value → Loc → Led → Prop} (hc : c.Ok w) (hf : f.cs.kind = .function) (hroom : c.dp < recursionLimit)
    (h : ∀ c' : Fx, c'.Ok w → c'.dp = c.dp + 1 → c'.un = c.un + 3 → c'.cl = [] → Sat w c' fn_call_of (execs bd_call_of (c'.env fn_call_of)) (lk [s "name", s "args", s "items"] [some v_name, some v_args, none]) N fun fl _ N' => Q (match fl with | .ret v => v | _ => .none) m N') :
    Sat w c f (call (.ref 140) [v_name, v_args]) m N Q :=
  sat_fun (f' := fn_call_of) (bvals := [v_name, v_args]) (n := 2) hc hf G_call_of (A_call_of w) hroom (fun s hs => BindsTo.of_eq (by kernel_rfl)) rfl (by decide) nc_call_of h
noncomputable def fn_same_kernel : Fn := ⟨s "same_kernel", scoOf (stIn P0 16), 182, .ref 181⟩
noncomputable abbrev bd_same_kernel : List Stmt := bodOf (stIn P0 16)
theorem G_same_kernel : FnG fn_same_kernel [s "u", s "v", s "kind", s "same_home"] [s "isinstance", s "Vector", s "same_items", s "identical", s "same_formals", s "same_slots", s "same_dots"] := fnG_of (by kernel_rfl)
theorem A_same_kernel (w : World) : FnAt w fn_same_kernel (s "same_kernel") (parOf (stIn P0 16)) bd_same_kernel .none .none .none (.str (s "vectorcove.identical") 371) .none none := ⟨⟨.type "function", none, #[], by kernel_rfl⟩, by kernel_rfl⟩
theorem nc_same_kernel : ∀ x ∈ fn_same_kernel.cs.names, x.2 ≠ .cell := fun x hx => of_decide_eq_true (List.all_eq_true.mp (show (fn_same_kernel.cs.names.all fun x => decide (x.2 ≠ .cell)) = true by kernel_rfl) x hx)
theorem call_same_kernel {w : World} {c : Fx} {f : Fn} {m : Loc} {N : Led} {v_u v_v : Value} {Q : Value → Loc → Led → Prop} (hc : c.Ok w) (hf : f.cs.kind = .function) (hroom : c.dp < recursionLimit)
    (h : ∀ c' : Fx, c'.Ok w → c'.dp = c.dp + 1 → c'.un = c.un + 3 → c'.cl = [] → Sat w c' fn_same_kernel (execs bd_same_kernel (c'.env fn_same_kernel)) (lk [s "u", s "v", s "kind", s "same_home"] [some v_u, some v_v, none, none]) N fun fl _ N' => Q (match fl with | .ret v => v | _ => .none) m N') :
    Sat w c f (call (.ref 182) [v_u, v_v]) m N Q :=
  sat_fun (f' := fn_same_kernel) (bvals := [v_u, v_v]) (n := 2) hc hf G_same_kernel (A_same_kernel w) hroom (fun s hs => BindsTo.of_eq (by kernel_rfl)) rfl (by decide) nc_same_kernel h
noncomputable def fn_same_code : Fn := ⟨s "same_code", scoOf (stIn P0 19), 203, .ref 202⟩
noncomputable abbrev bd_same_code : List Stmt := bodOf (stIn P0 19)
theorem G_same_code : FnG fn_same_code [s "u", s "v"] [s "same_items", s "same_code", s "isinstance", s "Vector", s "names_items", s "same_kernel"] := fnG_of (by kernel_rfl)
theorem A_same_code (w : World) : FnAt w fn_same_code (s "same_code") (parOf (stIn P0 19)) bd_same_code .none .none .none (.str (s "vectorcove.identical") 371) .none none := ⟨⟨.type "function", none, #[], by kernel_rfl⟩, by kernel_rfl⟩
theorem nc_same_code : ∀ x ∈ fn_same_code.cs.names, x.2 ≠ .cell := fun x hx => of_decide_eq_true (List.all_eq_true.mp (show (fn_same_code.cs.names.all fun x => decide (x.2 ≠ .cell)) = true by kernel_rfl) x hx)
theorem call_same_code {w : World} {c : Fx} {f : Fn} {m : Loc} {N : Led} {v_u v_v : Value} {Q : Value → Loc → Led → Prop} (hc : c.Ok w) (hf : f.cs.kind = .function) (hroom : c.dp < recursionLimit)
    (h : ∀ c' : Fx, c'.Ok w → c'.dp = c.dp + 1 → c'.un = c.un + 3 → c'.cl = [] → Sat w c' fn_same_code (execs bd_same_code (c'.env fn_same_code)) (lk [s "u", s "v"] [some v_u, some v_v]) N fun fl _ N' => Q (match fl with | .ret v => v | _ => .none) m N') :
    Sat w c f (call (.ref 203) [v_u, v_v]) m N Q :=
  sat_fun (f' := fn_same_code) (bvals := [v_u, v_v]) (n := 2) hc hf G_same_code (A_same_code w) hroom (fun s hs => BindsTo.of_eq (by kernel_rfl)) rfl (by decide) nc_same_code h
noncomputable def fn_called_name : Fn := ⟨s "called_name", scoOf (stIn P0 27), 259, .ref 258⟩
noncomputable abbrev bd_called_name : List Stmt := bodOf (stIn P0 27)
theorem G_called_name : FnG fn_called_name [s "e"] [s "isinstance", s "Call", s "Symbol"] := fnG_of (by kernel_rfl)
theorem A_called_name (w : World) : FnAt w fn_called_name (s "called_name") (parOf (stIn P0 27)) bd_called_name .none .none .none (.str (s "vectorcove.terms") 497) .none none := ⟨⟨.type "function", none, #[], by kernel_rfl⟩, by kernel_rfl⟩
theorem nc_called_name : ∀ x ∈ fn_called_name.cs.names, x.2 ≠ .cell := fun x hx => of_decide_eq_true (List.all_eq_true.mp (show (fn_called_name.cs.names.all fun x => decide (x.2 ≠ .cell)) = true by kernel_rfl) x hx)
theorem call_called_name {w : World} {c : Fx} {f : Fn} {m : Loc} {N : Led} {v_e : Value} {Q : Value → Loc → Led → Prop} (hc : c.Ok w) (hf : f.cs.kind = .function) (hroom : c.dp < recursionLimit)
    (h : ∀ c' : Fx, c'.Ok w → c'.dp = c.dp + 1 → c'.un = c.un + 3 → c'.cl = [] → Sat w c' fn_called_name (execs bd_called_name (c'.env fn_called_name)) (lk [s "e"] [some v_e]) N fun fl _ N' => Q (match fl with | .ret v => v | _ => .none) m N') :
    Sat w c f (call (.ref 259) [v_e]) m N Q :=
  sat_fun (f' := fn_called_name) (bvals := [v_e]) (n := 1) hc hf G_called_name (A_called_name w) hroom (fun s hs => BindsTo.of_eq (by kernel_rfl)) rfl (by decide) nc_called_name h
noncomputable def fn_is_formula_call : Fn := ⟨s "is_formula_call", scoOf (stIn P0 28), 266, .ref 265⟩
noncomputable abbrev bd_is_formula_call : List Stmt := bodOf (stIn P0 28)
theorem G_is_formula_call : FnG fn_is_formula_call [s "e"] [s "called_name", s "len"] := fnG_of (by kernel_rfl)
theorem A_is_formula_call (w : World) : FnAt w fn_is_formula_call (s "is_formula_call") (parOf (stIn P0 28)) bd_is_formula_call .none .none .none (.str (s "vectorcove.terms") 497) .none none := ⟨⟨.type "function", none, #[], by kernel_rfl⟩, by kernel_rfl⟩
theorem nc_is_formula_call : ∀ x ∈ fn_is_formula_call.cs.names, x.2 ≠ .cell := fun x hx => of_decide_eq_true (List.all_eq_true.mp (show (fn_is_formula_call.cs.names.all fun x => decide (x.2 ≠ .cell)) = true by kernel_rfl) x hx)
theorem call_is_formula_call {w : World} {c : Fx} {f : Fn} {m : Loc} {N : Led} {v_e : Value} {Q : Value → Loc → Led → Prop} (hc : c.Ok w) (hf : f.cs.kind = .function) (hroom : c.dp < recursionLimit)
    (h : ∀ c' : Fx, c'.Ok w → c'.dp = c.dp + 1 → c'.un = c.un + 3 → c'.cl = [] → Sat w c' fn_is_formula_call (execs bd_is_formula_call (c'.env fn_is_formula_call)) (lk [s "e"] [some v_e]) N fun fl _ N' => Q (match fl with | .ret v => v | _ => .none) m N') :
    Sat w c f (call (.ref 266) [v_e]) m N Q :=
  sat_fun (f' := fn_is_formula_call) (bvals := [v_e]) (n := 1) hc hf G_is_formula_call (A_is_formula_call w) hroom (fun s hs => BindsTo.of_eq (by kernel_rfl)) rfl (by decide) nc_is_formula_call h
noncomputable def fn_formula_parts : Fn := ⟨s "formula_parts", scoOf (stIn P0 29), 273, .ref 272⟩
noncomputable abbrev bd_formula_parts : List Stmt := bodOf (stIn P0 29)
theorem G_formula_parts : FnG fn_formula_parts [s "formula"] [s "is_formula_call", s "Refusal", s "len"] := fnG_of (by kernel_rfl)
theorem A_formula_parts (w : World) : FnAt w fn_formula_parts (s "formula_parts") (parOf (stIn P0 29)) bd_formula_parts .none .none .none (.str (s "vectorcove.terms") 497) .none none := ⟨⟨.type "function", none, #[], by kernel_rfl⟩, by kernel_rfl⟩
theorem nc_formula_parts : ∀ x ∈ fn_formula_parts.cs.names, x.2 ≠ .cell := fun x hx => of_decide_eq_true (List.all_eq_true.mp (show (fn_formula_parts.cs.names.all fun x => decide (x.2 ≠ .cell)) = true by kernel_rfl) x hx)
theorem call_formula_parts {w : World} {c : Fx} {f : Fn} {m : Loc} {N : Led} {v_formula : Value} {Q : Value → Loc → Led → Prop} (hc : c.Ok w) (hf : f.cs.kind = .function) (hroom : c.dp < recursionLimit)
    (h : ∀ c' : Fx, c'.Ok w → c'.dp = c.dp + 1 → c'.un = c.un + 3 → c'.cl = [] → Sat w c' fn_formula_parts (execs bd_formula_parts (c'.env fn_formula_parts)) (lk [s "formula"] [some v_formula]) N fun fl _ N' => Q (match fl with | .ret v => v | _ => .none) m N') :
    Sat w c f (call (.ref 273) [v_formula]) m N Q :=
  sat_fun (f' := fn_formula_parts) (bvals := [v_formula]) (n := 1) hc hf G_formula_parts (A_formula_parts w) hroom (fun s hs => BindsTo.of_eq (by kernel_rfl)) rfl (by decide) nc_formula_parts h
noncomputable def fn_constant_whole : Fn := ⟨s "constant_whole", scoOf (stIn P0 30), 280, .ref 279⟩
noncomputable abbrev bd_constant_whole : List Stmt := bodOf (stIn P0 30)
theorem G_constant_whole : FnG fn_constant_whole [s "e", s "value"] [s "len"] := fnG_of (by kernel_rfl)
theorem A_constant_whole (w : World) : FnAt w fn_constant_whole (s "constant_whole") (parOf (stIn P0 30)) bd_constant_whole .none .none .none (.str (s "vectorcove.terms") 497) .none none := ⟨⟨.type "function", none, #[], by kernel_rfl⟩, by kernel_rfl⟩
theorem nc_constant_whole : ∀ x ∈ fn_constant_whole.cs.names, x.2 ≠ .cell := fun x hx => of_decide_eq_true (List.all_eq_true.mp (show (fn_constant_whole.cs.names.all fun x => decide (x.2 ≠ .cell)) = true by kernel_rfl) x hx)
theorem call_constant_whole {w : World} {c : Fx} {f : Fn} {m : Loc} {N : Led} {v_e : Value} {Q : Value → Loc → Led → Prop} (hc : c.Ok w) (hf : f.cs.kind = .function) (hroom : c.dp < recursionLimit)
    (h : ∀ c' : Fx, c'.Ok w → c'.dp = c.dp + 1 → c'.un = c.un + 3 → c'.cl = [] → Sat w c' fn_constant_whole (execs bd_constant_whole (c'.env fn_constant_whole)) (lk [s "e", s "value"] [some v_e, none]) N fun fl _ N' => Q (match fl with | .ret v => v | _ => .none) m N') :
    Sat w c f (call (.ref 280) [v_e]) m N Q :=
  sat_fun (f' := fn_constant_whole) (bvals := [v_e]) (n := 1) hc hf G_constant_whole (A_constant_whole w) hroom (fun s hs => BindsTo.of_eq (by kernel_rfl)) rfl (by decide) nc_constant_whole h
noncomputable def fn_union : Fn := ⟨s "union", scoOf (stIn P0 31), 287, .ref 286⟩
noncomputable abbrev bd_union : List Stmt := bodOf (stIn P0 31)
theorem G_union : FnG fn_union [s "first", s "second", s "found", s "term"] [] := fnG_of (by kernel_rfl)
theorem A_union (w : World) : FnAt w fn_union (s "union") (parOf (stIn P0 31)) bd_union .none .none .none (.str (s "vectorcove.terms") 497) .none none := ⟨⟨.type "function", none, #[], by kernel_rfl⟩, by kernel_rfl⟩
theorem nc_union : ∀ x ∈ fn_union.cs.names, x.2 ≠ .cell := fun x hx => of_decide_eq_true (List.all_eq_true.mp (show (fn_union.cs.names.all fun x => decide (x.2 ≠ .cell)) = true by kernel_rfl) x hx)
theorem call_union {w : World} {c : Fx} {f : Fn} {m : Loc} {N : Led} {v_first v_second : Value} {Q : Value → Loc → Led → Prop} (hc : c.Ok w) (hf : f.cs.kind = .function) (hroom : c.dp < recursionLimit)
    (h : ∀ c' : Fx, c'.Ok w → c'.dp = c.dp + 1 → c'.un = c.un + 3 → c'.cl = [] → Sat w c' fn_union (execs bd_union (c'.env fn_union)) (lk [s "first", s "second", s "found", s "term"] [some v_first, some v_second, none, none]) N fun fl _ N' => Q (match fl with | .ret v => v | _ => .none) m N') :
    Sat w c f (call (.ref 287) [v_first, v_second]) m N Q :=
  sat_fun (f' := fn_union) (bvals := [v_first, v_second]) (n := 2) hc hf G_union (A_union w) hroom (fun s hs => BindsTo.of_eq (by kernel_rfl)) rfl (by decide) nc_union h
noncomputable def fn_crossed : Fn := ⟨s "crossed", scoOf (stIn P0 32), 294, .ref 293⟩
noncomputable abbrev bd_crossed : List Stmt := bodOf (stIn P0 32)
theorem G_crossed : FnG fn_crossed [s "first", s "second", s "found", s "left", s "right"] [] := fnG_of (by kernel_rfl)
theorem A_crossed (w : World) : FnAt w fn_crossed (s "crossed") (parOf (stIn P0 32)) bd_crossed .none .none .none (.str (s "vectorcove.terms") 497) .none none := ⟨⟨.type "function", none, #[], by kernel_rfl⟩, by kernel_rfl⟩
theorem nc_crossed : ∀ x ∈ fn_crossed.cs.names, x.2 ≠ .cell := fun x hx => of_decide_eq_true (List.all_eq_true.mp (show (fn_crossed.cs.names.all fun x => decide (x.2 ≠ .cell)) = true by kernel_rfl) x hx)
theorem call_crossed {w : World} {c : Fx} {f : Fn} {m : Loc} {N : Led} {v_first v_second : Value} {Q : Value → Loc → Led → Prop} (hc : c.Ok w) (hf : f.cs.kind = .function) (hroom : c.dp < recursionLimit)
    (h : ∀ c' : Fx, c'.Ok w → c'.dp = c.dp + 1 → c'.un = c.un + 3 → c'.cl = [] → Sat w c' fn_crossed (execs bd_crossed (c'.env fn_crossed)) (lk [s "first", s "second", s "found", s "left", s "right"] [some v_first, some v_second, none, none, none]) N fun fl _ N' => Q (match fl with | .ret v => v | _ => .none) m N') :
    Sat w c f (call (.ref 294) [v_first, v_second]) m N Q :=
  sat_fun (f' := fn_crossed) (bvals := [v_first, v_second]) (n := 2) hc hf G_crossed (A_crossed w) hroom (fun s hs => BindsTo.of_eq (by kernel_rfl)) rfl (by decide) nc_crossed h
noncomputable def fn_joined : Fn := ⟨s "joined", scoOf (stIn P0 33), 301, .ref 300⟩
noncomputable abbrev bd_joined : List Stmt := bodOf (stIn P0 33)
theorem G_joined : FnG fn_joined [s "row", s "whole", s "term"] [] := fnG_of (by kernel_rfl)
theorem A_joined (w : World) : FnAt w fn_joined (s "joined") (parOf (stIn P0 33)) bd_joined .none .none .none (.str (s "vectorcove.terms") 497) .none none := ⟨⟨.type "function", none, #[], by kernel_rfl⟩, by kernel_rfl⟩
theorem nc_joined : ∀ x ∈ fn_joined.cs.names, x.2 ≠ .cell := fun x hx => of_decide_eq_true (List.all_eq_true.mp (show (fn_joined.cs.names.all fun x => decide (x.2 ≠ .cell)) = true by kernel_rfl) x hx)
theorem call_joined {w : World} {c : Fx} {f : Fn} {m : Loc} {N : Led} {v_row : Value} {Q : Value → Loc → Led → Prop} (hc : c.Ok w) (hf : f.cs.kind = .function) (hroom : c.dp < recursionLimit)
    (h : ∀ c' : Fx, c'.Ok w → c'.dp = c.dp + 1 → c'.un = c.un + 3 → c'.cl = [] → Sat w c' fn_joined (execs bd_joined (c'.env fn_joined)) (lk [s "row", s "whole", s "term"] [some v_row, none, none]) N fun fl _ N' => Q (match fl with | .ret v => v | _ => .none) m N') :
    Sat w c f (call (.ref 301) [v_row]) m N Q :=
  sat_fun (f' := fn_joined) (bvals := [v_row]) (n := 1) hc hf G_joined (A_joined w) hroom (fun s hs => BindsTo.of_eq (by kernel_rfl)) rfl (by decide) nc_joined h
noncomputable def fn_members : Fn := ⟨s "members", scoOf (stIn P0 34), 308, .ref 307⟩
noncomputable abbrev bd_members : List Stmt := bodOf (stIn P0 34)
theorem G_members : FnG fn_members [s "term", s "numbers", s "place"] [s "tuple"] := fnG_of (by kernel_rfl)
theorem A_members (w : World) : FnAt w fn_members (s "members") (parOf (stIn P0 34)) bd_members .none .none .none (.str (s "vectorcove.terms") 497) .none none := ⟨⟨.type "function", none, #[], by kernel_rfl⟩, by kernel_rfl⟩
theorem nc_members : ∀ x ∈ fn_members.cs.names, x.2 ≠ .cell := fun x hx => of_decide_eq_true (List.all_eq_true.mp (show (fn_members.cs.names.all fun x => decide (x.2 ≠ .cell)) = true by kernel_rfl) x hx)
theorem call_members {w : World} {c : Fx} {f : Fn} {m : Loc} {N : Led} {v_term : Value} {Q : Value → Loc → Led → Prop} (hc : c.Ok w) (hf : f.cs.kind = .function) (hroom : c.dp < recursionLimit)
    (h : ∀ c' : Fx, c'.Ok w → c'.dp = c.dp + 1 → c'.un = c.un + 3 → c'.cl = [] → Sat w c' fn_members (execs bd_members (c'.env fn_members)) (lk [s "term", s "numbers", s "place"] [some v_term, none, none]) N fun fl _ N' => Q (match fl with | .ret v => v | _ => .none) m N') :
    Sat w c f (call (.ref 308) [v_term]) m N Q :=
  sat_fun (f' := fn_members) (bvals := [v_term]) (n := 1) hc hf G_members (A_members w) hroom (fun s hs => BindsTo.of_eq (by kernel_rfl)) rfl (by decide) nc_members h
noncomputable def fn_by_degree : Fn := ⟨s "by_degree", scoOf (stIn P0 35), 315, .ref 314⟩
noncomputable abbrev bd_by_degree : List Stmt := bodOf (stIn P0 35)
theorem G_by_degree : FnG fn_by_degree [s "row", s "found", s "degree", s "term"] [s "len", s "members"] := fnG_of (by kernel_rfl)
theorem A_by_degree (w : World) : FnAt w fn_by_degree (s "by_degree") (parOf (stIn P0 35)) bd_by_degree .none .none .none (.str (s "vectorcove.terms") 497) .none none := ⟨⟨.type "function", none, #[], by kernel_rfl⟩, by kernel_rfl⟩
theorem nc_by_degree : ∀ x ∈ fn_by_degree.cs.names, x.2 ≠ .cell := fun x hx => of_decide_eq_true (List.all_eq_true.mp (show (fn_by_degree.cs.names.all fun x => decide (x.2 ≠ .cell)) = true by kernel_rfl) x hx)
theorem call_by_degree {w : World} {c : Fx} {f : Fn} {m : Loc} {N : Led} {v_row : Value} {Q : Value → Loc → Led → Prop} (hc : c.Ok w) (hf : f.cs.kind = .function) (hroom : c.dp < recursionLimit)
    (h : ∀ c' : Fx, c'.Ok w → c'.dp = c.dp + 1 → c'.un = c.un + 3 → c'.cl = [] → Sat w c' fn_by_degree (execs bd_by_degree (c'.env fn_by_degree)) (lk [s "row", s "found", s "degree", s "term"] [some v_row, none, none, none]) N fun fl _ N' => Q (match fl with | .ret v => v | _ => .none) m N') :
    Sat w c f (call (.ref 315) [v_row]) m N Q :=
  sat_fun (f' := fn_by_degree) (bvals := [v_row]) (n := 1) hc hf G_by_degree (A_by_degree w) hroom (fun s hs => BindsTo.of_eq (by kernel_rfl)) rfl (by decide) nc_by_degree h
noncomputable def fn_variable : Fn := ⟨s "TermReader.variable", scoOf (subIn (stIn P0 36) 1), 336, .ref 335⟩
noncomputable abbrev bd_variable : List Stmt := bodOf (subIn (stIn P0 36) 1)
theorem G_variable : FnG fn_variable [s "self", s "e", s "place"] [s "range", s "len", s "same_code"] := fnG_of (by kernel_rfl)
theorem A_variable (w : World) : FnAt w fn_variable (s "variable") (parOf (subIn (stIn P0 36) 1)) bd_variable .none .none .none (.str (s "vectorcove.terms") 497) .none none := ⟨⟨.type "function", none, #[], by kernel_rfl⟩, by kernel_rfl⟩
theorem nc_variable : ∀ x ∈ fn_variable.cs.names, x.2 ≠ .cell := fun x hx => of_decide_eq_true (List.all_eq_true.mp (show (fn_variable.cs.names.all fun x => decide (x.2 ≠ .cell)) = true by kernel_rfl) x hx)
theorem call_variable {w : World} {c : Fx} {f : Fn} {m : Loc} {N : Led} {v_self v_e : Value} {Q : Value → Loc → Led → Prop} (hc : c.Ok w) (hf : f.cs.kind = .function) (hroom : c.dp < recursionLimit)
    (h : ∀ c' : Fx, c'.Ok w → c'.dp = c.dp + 1 → c'.un = c.un + 3 → c'.cl = [] → Sat w c' fn_variable (execs bd_variable (c'.env fn_variable)) (lk [s "self", s "e", s "place"] [some v_self, some v_e, none]) N fun fl _ N' => Q (match fl with | .ret v => v | _ => .none) m N') :
    Sat w c f (call (.ref 336) [v_self, v_e]) m N Q :=
  sat_fun (f' := fn_variable) (bvals := [v_self, v_e]) (n := 2) hc hf G_variable (A_variable w) hroom (fun s hs => BindsTo.of_eq (by kernel_rfl)) rfl (by decide) nc_variable h
noncomputable def fn_constant : Fn := ⟨s "TermReader.constant", scoOf (subIn (stIn P0 36) 2), 343, .ref 342⟩
noncomputable abbrev bd_constant : List Stmt := bodOf (subIn (stIn P0 36) 2)
theorem G_constant : FnG fn_constant [s "self", s "n"] [s "Refusal"] := fnG_of (by kernel_rfl)
theorem A_constant (w : World) : FnAt w fn_constant (s "constant") (parOf (subIn (stIn P0 36) 2)) bd_constant .none .none .none (.str (s "vectorcove.terms") 497) .none none := ⟨⟨.type "function", none, #[], by kernel_rfl⟩, by kernel_rfl⟩
theorem nc_constant : ∀ x ∈ fn_constant.cs.names, x.2 ≠ .cell := fun x hx => of_decide_eq_true (List.all_eq_true.mp (show (fn_constant.cs.names.all fun x => decide (x.2 ≠ .cell)) = true by kernel_rfl) x hx)
theorem call_constant {w : World} {c : Fx} {f : Fn} {m : Loc} {N : Led} {v_self v_n : Value} {Q : Value → Loc → Led → Prop} (hc : c.Ok w) (hf : f.cs.kind = .function) (hroom : c.dp < recursionLimit)
    (h : ∀ c' : Fx, c'.Ok w → c'.dp = c.dp + 1 → c'.un = c.un + 3 → c'.cl = [] → Sat w c' fn_constant (execs bd_constant (c'.env fn_constant)) (lk [s "self", s "n"] [some v_self, some v_n]) N fun fl _ N' => Q (match fl with | .ret v => v | _ => .none) m N') :
    Sat w c f (call (.ref 343) [v_self, v_n]) m N Q :=
  sat_fun (f' := fn_constant) (bvals := [v_self, v_n]) (n := 2) hc hf G_constant (A_constant w) hroom (fun s hs => BindsTo.of_eq (by kernel_rfl)) rfl (by decide) nc_constant h
noncomputable def fn_taken : Fn := ⟨s "TermReader.taken_away", scoOf (subIn (stIn P0 36) 4), 355, .ref 354⟩
noncomputable abbrev bd_taken : List Stmt := bodOf (subIn (stIn P0 36) 4)
theorem G_taken : FnG fn_taken [s "self", s "left", s "right", s "row"] [] := fnG_of (by kernel_rfl)
theorem A_taken (w : World) : FnAt w fn_taken (s "taken_away") (parOf (subIn (stIn P0 36) 4)) bd_taken .none .none .none (.str (s "vectorcove.terms") 497) .none none := ⟨⟨.type "function", none, #[], by kernel_rfl⟩, by kernel_rfl⟩
noncomputable def fn_power : Fn := ⟨s "TermReader.power", scoOf (subIn (stIn P0 36) 5), 362, .ref 361⟩
noncomputable abbrev bd_power : List Stmt := bodOf (subIn (stIn P0 36) 5)
theorem G_power : FnG fn_power [s "self", s "e", s "count", s "row", s "found", s "turn"] [s "constant_whole", s "Refusal", s "range", s "min", s "len", s "crossed"] := fnG_of (by kernel_rfl)
theorem A_power (w : World) : FnAt w fn_power (s "power") (parOf (subIn (stIn P0 36) 5)) bd_power .none .none .none (.str (s "vectorcove.terms") 497) .none none := ⟨⟨.type "function", none, #[], by kernel_rfl⟩, by kernel_rfl⟩
theorem nc_power : ∀ x ∈ fn_power.cs.names, x.2 ≠ .cell := fun x hx => of_decide_eq_true (List.all_eq_true.mp (show (fn_power.cs.names.all fun x => decide (x.2 ≠ .cell)) = true by kernel_rfl) x hx)
theorem call_power {w : World} {c : Fx} {f : Fn} {m : Loc} {N : Led} {v_self v_e : Value} {Q : Value → Loc → Led → Prop} (hc : c.Ok w) (hf : f.cs.kind = .function) (hroom : c.dp < recursionLimit)
    (h : ∀ c' : Fx, c'.Ok w → c'.dp = c.dp + 1 → c'.un = c.un + 3 → c'.cl = [] → Sat w c' fn_power (execs bd_power (c'.env fn_power)) (lk [s "self", s "e", s "count", s "row", s "found", s "turn"] [some v_self, some v_e, none, none, none, none]) N fun fl _ N' => Q (match fl with | .ret v => v | _ => .none) m N') :
    Sat w c f (call (.ref 362) [v_self, v_e]) m N Q :=
  sat_fun (f' := fn_power) (bvals := [v_self, v_e]) (n := 2) hc hf G_power (A_power w) hroom (fun s hs => BindsTo.of_eq (by kernel_rfl)) rfl (by decide) nc_power h
noncomputable def fn_operator : Fn := ⟨s "TermReader.operator", scoOf (subIn (stIn P0 36) 6), 369, .ref 368⟩
noncomputable abbrev bd_operator : List Stmt := bodOf (subIn (stIn P0 36) 6)
theorem G_operator : FnG fn_operator [s "self", s "name", s "e", s "left", s "right", s "first", s "second"] [s "union", s "crossed", s "joined"] := fnG_of (by kernel_rfl)
theorem A_operator (w : World) : FnAt w fn_operator (s "operator") (parOf (subIn (stIn P0 36) 6)) bd_operator .none .none .none (.str (s "vectorcove.terms") 497) .none none := ⟨⟨.type "function", none, #[], by kernel_rfl⟩, by kernel_rfl⟩
theorem nc_operator : ∀ x ∈ fn_operator.cs.names, x.2 ≠ .cell := fun x hx => of_decide_eq_true (List.all_eq_true.mp (show (fn_operator.cs.names.all fun x => decide (x.2 ≠ .cell)) = true by kernel_rfl) x hx)
theorem call_operator {w : World} {c : Fx} {f : Fn} {m : Loc} {N : Led} {v_self v_name v_e : Value} {Q : Value → Loc → Led → Prop} (hc : c.Ok w) (hf : f.cs.kind = .function) (hroom : c.dp < recursionLimit)
    (h : ∀ c' : Fx, c'.Ok w → c'.dp = c.dp + 1 → c'.un = c.un + 3 → c'.cl = [] → Sat w c' fn_operator (execs bd_operator (c'.env fn_operator)) (lk [s "self", s "name", s "e", s "left", s "right", s "first", s "second"] [some v_self, some v_name, some v_e, none, none, none, none]) N fun fl _ N' => Q (match fl with | .ret v => v | _ => .none) m N') :
    Sat w c f (call (.ref 369) [v_self, v_name, v_e]) m N Q :=
  sat_fun (f' := fn_operator) (bvals := [v_self, v_name, v_e]) (n := 3) hc hf G_operator (A_operator w) hroom (fun s hs => BindsTo.of_eq (by kernel_rfl)) rfl (by decide) nc_operator h
noncomputable def fn_read : Fn := ⟨s "TermReader.read", scoOf (subIn (stIn P0 36) 7), 376, .ref 375⟩
noncomputable abbrev bd_read : List Stmt := bodOf (subIn (stIn P0 36) 7)
theorem G_read : FnG fn_read [s "self", s "e", s "n", s "name", s "found"] [s "constant_whole", s "isinstance", s "Symbol", s "Call", s "Refusal", s "called_name", s "len"] := fnG_of (by kernel_rfl)
theorem A_read (w : World) : FnAt w fn_read (s "read") (parOf (subIn (stIn P0 36) 7)) bd_read .none .none .none (.str (s "vectorcove.terms") 497) .none none := ⟨⟨.type "function", none, #[], by kernel_rfl⟩, by kernel_rfl⟩
theorem nc_read : ∀ x ∈ fn_read.cs.names, x.2 ≠ .cell := fun x hx => of_decide_eq_true (List.all_eq_true.mp (show (fn_read.cs.names.all fun x => decide (x.2 ≠ .cell)) = true by kernel_rfl) x hx)
theorem call_read {w : World} {c : Fx} {f : Fn} {m : Loc} {N : Led} {v_self v_e : Value} {Q : Value → Loc → Led → Prop} (hc : c.Ok w) (hf : f.cs.kind = .function) (hroom : c.dp < recursionLimit)
    (h : ∀ c' : Fx, c'.Ok w → c'.dp = c.dp + 1 → c'.un = c.un + 3 → c'.cl = [] → Sat w c' fn_read (execs bd_read (c'.env fn_read)) (lk [s "self", s "e", s "n", s "name", s "found"] [some v_self, some v_e, none, none, none]) N fun fl _ N' => Q (match fl with | .ret v => v | _ => .none) m N') :
    Sat w c f (call (.ref 376) [v_self, v_e]) m N Q :=
  sat_fun (f' := fn_read) (bvals := [v_self, v_e]) (n := 2) hc hf G_read (A_read w) hroom (fun s hs => BindsTo.of_eq (by kernel_rfl)) rfl (by decide) nc_read h
noncomputable def fn_expand : Fn := ⟨s "expand", scoOf (stIn P0 37), 389, .ref 388⟩
noncomputable abbrev bd_expand : List Stmt := bodOf (stIn P0 37)
theorem G_expand : FnG fn_expand [s "formula", s "names", s "response", s "right", s "reader", s "term", s "row", s "away", s "kept", s "offsets", s "place", s "e", s "factors"] [s "formula_parts", s "TermReader", s "by_degree", s "range", s "len", s "called_name", s "same_code", s "tuple", s "members", s "Terms"] := fnG_of (by kernel_rfl)
theorem A_expand (w : World) : FnAt w fn_expand (s "expand") (parOf (stIn P0 37)) bd_expand (.ref 384) .none .none (.str (s "vectorcove.terms") 497) .none none := ⟨⟨.type "function", none, #[], by kernel_rfl⟩, by kernel_rfl⟩
noncomputable def fn_term_language : Fn := ⟨s "term_language", scoOf (stIn P0 38), 396, .ref 395⟩
noncomputable abbrev bd_term_language : List Stmt := bodOf (stIn P0 38)
theorem G_term_language : FnG fn_term_language [s "terms", s "factor", s "e", s "place"] [s "call_of"] := fnG_of (by kernel_rfl)
theorem A_term_language (w : World) : FnAt w fn_term_language (s "term_language") (parOf (stIn P0 38)) bd_term_language .none .none .none (.str (s "vectorcove.terms") 497) .none none := ⟨⟨.type "function", none, #[], by kernel_rfl⟩, by kernel_rfl⟩
theorem nc_term_language : ∀ x ∈ fn_term_language.cs.names, x.2 ≠ .cell := fun x hx => of_decide_eq_true (List.all_eq_true.mp (show (fn_term_language.cs.names.all fun x => decide (x.2 ≠ .cell)) = true by kernel_rfl) x hx)
theorem call_term_language {w : World} {c : Fx} {f : Fn} {m : Loc} {N : Led} {v_terms v_factor : Value} {Q : Value → Loc → Led → Prop} (hc : c.Ok w) (hf : f.cs.kind = .function) (hroom : c.dp < recursionLimit)
    (h : ∀ c' : Fx, c'.Ok w → c'.dp = c.dp + 1 → c'.un = c.un + 3 → c'.cl = [] → Sat w c' fn_term_language (execs bd_term_language (c'.env fn_term_language)) (lk [s "terms", s "factor", s "e", s "place"] [some v_terms, some v_factor, none, none]) N fun fl _ N' => Q (match fl with | .ret v => v | _ => .none) m N') :
    Sat w c f (call (.ref 396) [v_terms, v_factor]) m N Q :=
  sat_fun (f' := fn_term_language) (bvals := [v_terms, v_factor]) (n := 2) hc hf G_term_language (A_term_language w) hroom (fun s hs => BindsTo.of_eq (by kernel_rfl)) rfl (by decide) nc_term_language h
noncomputable def fn_right_side : Fn := ⟨s "right_side", scoOf (stIn P0 39), 401, .ref 400⟩
noncomputable abbrev bd_right_side : List Stmt := bodOf (stIn P0 39)
theorem G_right_side : FnG fn_right_side [s "e", s "part"] [s "call_of", s "number"] := fnG_of (by kernel_rfl)
theorem A_right_side (w : World) : FnAt w fn_right_side (s "right_side") (parOf (stIn P0 39)) bd_right_side .none .none .none (.str (s "vectorcove.terms") 497) .none none := ⟨⟨.type "function", none, #[], by kernel_rfl⟩, by kernel_rfl⟩
noncomputable def fn_formula_of : Fn := ⟨s "formula_of", scoOf (stIn P0 40), 408, .ref 407⟩
noncomputable abbrev bd_formula_of : List Stmt := bodOf (stIn P0 40)
theorem G_formula_of : FnG fn_formula_of [s "terms"] [s "call_of", s "right_side"] := fnG_of (by kernel_rfl)
theorem A_formula_of (w : World) : FnAt w fn_formula_of (s "formula_of") (parOf (stIn P0 40)) bd_formula_of .none .none .none (.str (s "vectorcove.terms") 497) .none none := ⟨⟨.type "function", none, #[], by kernel_rfl⟩, by kernel_rfl⟩
theorem nc_formula_of : ∀ x ∈ fn_formula_of.cs.names, x.2 ≠ .cell := fun x hx => of_decide_eq_true (List.all_eq_true.mp (show (fn_formula_of.cs.names.all fun x => decide (x.2 ≠ .cell)) = true by kernel_rfl) x hx)
theorem call_formula_of {w : World} {c : Fx} {f : Fn} {m : Loc} {N : Led} {v_terms : Value} {Q : Value → Loc → Led → Prop} (hc : c.Ok w) (hf : f.cs.kind = .function) (hroom : c.dp < recursionLimit)
    (h : ∀ c' : Fx, c'.Ok w → c'.dp = c.dp + 1 → c'.un = c.un + 3 → c'.cl = [] → Sat w c' fn_formula_of (execs bd_formula_of (c'.env fn_formula_of)) (lk [s "terms"] [some v_terms]) N fun fl _ N' => Q (match fl with | .ret v => v | _ => .none) m N') :
    Sat w c f (call (.ref 408) [v_terms]) m N Q :=
  sat_fun (f' := fn_formula_of) (bvals := [v_terms]) (n := 1) hc hf G_formula_of (A_formula_of w) hroom (fun s hs => BindsTo.of_eq (by kernel_rfl)) rfl (by decide) nc_formula_of h
noncomputable def fn_figure : Fn := ⟨s "_law_figure", scoOf (stIn P0 42), 415, .ref 414⟩
noncomputable abbrev bd_figure : List Stmt := bodOf (stIn P0 42)
theorem G_figure : FnG fn_figure [s "script", s "at", s "limit"] [s "len"] := fnG_of (by kernel_rfl)
theorem A_figure (w : World) : FnAt w fn_figure (s "_law_figure") (parOf (stIn P0 42)) bd_figure .none .none .none (.str (s "law_ov0071_01") 746) .none none := ⟨⟨.type "function", none, #[], by kernel_rfl⟩, by kernel_rfl⟩
theorem nc_figure : ∀ x ∈ fn_figure.cs.names, x.2 ≠ .cell := fun x hx => of_decide_eq_true (List.all_eq_true.mp (show (fn_figure.cs.names.all fun x => decide (x.2 ≠ .cell)) = true by kernel_rfl) x hx)
theorem call_figure {w : World} {c : Fx} {f : Fn} {m : Loc} {N : Led} {v_script v_at v_limit : Value} {Q : Value → Loc → Led → Prop} (hc : c.Ok w) (hf : f.cs.kind = .function) (hroom : c.dp < recursionLimit)
    (h : ∀ c' : Fx, c'.Ok w → c'.dp = c.dp + 1 → c'.un = c.un + 3 → c'.cl = [] → Sat w c' fn_figure (execs bd_figure (c'.env fn_figure)) (lk [s "script", s "at", s "limit"] [some v_script, some v_at, some v_limit]) N fun fl _ N' => Q (match fl with | .ret v => v | _ => .none) m N') :
    Sat w c f (call (.ref 415) [v_script, v_at, v_limit]) m N Q :=
  sat_fun (f' := fn_figure) (bvals := [v_script, v_at, v_limit]) (n := 3) hc hf G_figure (A_figure w) hroom (fun s hs => BindsTo.of_eq (by kernel_rfl)) rfl (by decide) nc_figure h
noncomputable def fn_side : Fn := ⟨s "_law_side", scoOf (stIn P0 43), 422, .ref 421⟩
noncomputable abbrev bd_side : List Stmt := bodOf (stIn P0 43)
theorem G_side : FnG fn_side [s "script", s "at", s "one", s "two", s "shape_of_it"] [s "Symbol", s "_law_figure", s "call_of"] := fnG_of (by kernel_rfl)
theorem A_side (w : World) : FnAt w fn_side (s "_law_side") (parOf (stIn P0 43)) bd_side .none .none .none (.str (s "law_ov0071_01") 746) .none none := ⟨⟨.type "function", none, #[], by kernel_rfl⟩, by kernel_rfl⟩
theorem nc_side : ∀ x ∈ fn_side.cs.names, x.2 ≠ .cell := fun x hx => of_decide_eq_true (List.all_eq_true.mp (show (fn_side.cs.names.all fun x => decide (x.2 ≠ .cell)) = true by kernel_rfl) x hx)
theorem call_side {w : World} {c : Fx} {f : Fn} {m : Loc} {N : Led} {v_script v_at : Value} {Q : Value → Loc → Led → Prop} (hc : c.Ok w) (hf : f.cs.kind = .function) (hroom : c.dp < recursionLimit)
    (h : ∀ c' : Fx, c'.Ok w → c'.dp = c.dp + 1 → c'.un = c.un + 3 → c'.cl = [] → Sat w c' fn_side (execs bd_side (c'.env fn_side)) (lk [s "script", s "at", s "one", s "two", s "shape_of_it"] [some v_script, some v_at, none, none, none]) N fun fl _ N' => Q (match fl with | .ret v => v | _ => .none) m N') :
    Sat w c f (call (.ref 422) [v_script, v_at]) m N Q :=
  sat_fun (f' := fn_side) (bvals := [v_script, v_at]) (n := 2) hc hf G_side (A_side w) hroom (fun s hs => BindsTo.of_eq (by kernel_rfl)) rfl (by decide) nc_side h
noncomputable def fn_two : Fn := ⟨s "_law_two", scoOf (stIn P0 44), 429, .ref 428⟩
noncomputable abbrev bd_two : List Stmt := bodOf (stIn P0 44)
theorem G_two : FnG fn_two [s "mark_between", s "left", s "right"] [s "call_of"] := fnG_of (by kernel_rfl)
theorem A_two (w : World) : FnAt w fn_two (s "_law_two") (parOf (stIn P0 44)) bd_two .none .none .none (.str (s "law_ov0071_01") 746) .none none := ⟨⟨.type "function", none, #[], by kernel_rfl⟩, by kernel_rfl⟩
theorem nc_two : ∀ x ∈ fn_two.cs.names, x.2 ≠ .cell := fun x hx => of_decide_eq_true (List.all_eq_true.mp (show (fn_two.cs.names.all fun x => decide (x.2 ≠ .cell)) = true by kernel_rfl) x hx)
theorem call_two {w : World} {c : Fx} {f : Fn} {m : Loc} {N : Led} {v_mark_between v_left v_right : Value} {Q : Value → Loc → Led → Prop} (hc : c.Ok w) (hf : f.cs.kind = .function) (hroom : c.dp < recursionLimit)
    (h : ∀ c' : Fx, c'.Ok w → c'.dp = c.dp + 1 → c'.un = c.un + 3 → c'.cl = [] → Sat w c' fn_two (execs bd_two (c'.env fn_two)) (lk [s "mark_between", s "left", s "right"] [some v_mark_between, some v_left, some v_right]) N fun fl _ N' => Q (match fl with | .ret v => v | _ => .none) m N') :
    Sat w c f (call (.ref 429) [v_mark_between, v_left, v_right]) m N Q :=
  sat_fun (f' := fn_two) (bvals := [v_mark_between, v_left, v_right]) (n := 3) hc hf G_two (A_two w) hroom (fun s hs => BindsTo.of_eq (by kernel_rfl)) rfl (by decide) nc_two h
noncomputable def fn_row : Fn := ⟨s "_law_row", scoOf (stIn P0 45), 434, .ref 433⟩
noncomputable abbrev bd_row : List Stmt := bodOf (stIn P0 45)
theorem G_row : FnG fn_row [s "side"] [s "expand", s "call_of"] := fnG_of (by kernel_rfl)
theorem A_row (w : World) : FnAt w fn_row (s "_law_row") (parOf (stIn P0 45)) bd_row .none .none .none (.str (s "law_ov0071_01") 746) .none none := ⟨⟨.type "function", none, #[], by kernel_rfl⟩, by kernel_rfl⟩
noncomputable def fn_same : Fn := ⟨s "_law_same", scoOf (stIn P0 46), 441, .ref 440⟩
noncomputable abbrev bd_same : List Stmt := bodOf (stIn P0 46)
theorem G_same : FnG fn_same [s "first", s "second"] [s "sorted", s "_law_row"] := fnG_of (by kernel_rfl)
theorem A_same (w : World) : FnAt w fn_same (s "_law_same") (parOf (stIn P0 46)) bd_same .none .none .none (.str (s "law_ov0071_01") 746) .none none := ⟨⟨.type "function", none, #[], by kernel_rfl⟩, by kernel_rfl⟩
theorem nc_same : ∀ x ∈ fn_same.cs.names, x.2 ≠ .cell := fun x hx => of_decide_eq_true (List.all_eq_true.mp (show (fn_same.cs.names.all fun x => decide (x.2 ≠ .cell)) = true by kernel_rfl) x hx)
theorem call_same {w : World} {c : Fx} {f : Fn} {m : Loc} {N : Led} {v_first v_second : Value} {Q : Value → Loc → Led → Prop} (hc : c.Ok w) (hf : f.cs.kind = .function) (hroom : c.dp < recursionLimit)
    (h : ∀ c' : Fx, c'.Ok w → c'.dp = c.dp + 1 → c'.un = c.un + 3 → c'.cl = [] → Sat w c' fn_same (execs bd_same (c'.env fn_same)) (lk [s "first", s "second"] [some v_first, some v_second]) N fun fl _ N' => Q (match fl with | .ret v => v | _ => .none) m N') :
    Sat w c f (call (.ref 441) [v_first, v_second]) m N Q :=
  sat_fun (f' := fn_same) (bvals := [v_first, v_second]) (n := 2) hc hf G_same (A_same w) hroom (fun s hs => BindsTo.of_eq (by kernel_rfl)) rfl (by decide) nc_same h
section
variable {α β : Type} {w : World} {c : Fx} {f : Fn} {m : Loc} {N : Led} {env : Env}
theorem ofNews {h₀ h : Heap} {L l : Addr} {N M : Led} {vs : List Value} {n : Nat} (X : News h₀ L h (N ++ M)) (hm : (l, lst vs n) ∈ N) : h.IsList l vs.toArray := ⟨_, (X _ (List.mem_append_left _ hm)).1, rfl, n, rfl⟩
theorem ofNewsT {h₀ h : Heap} {L l : Addr} {N M : Led} {vs : List Value} (X : News h₀ L h (N ++ M)) (hm : (l, tup vs) ∈ N) : IsTup h l vs.toArray := ⟨_, (X _ (List.mem_append_left _ hm)).1, rfl, 0, rfl⟩

noncomputable abbrev rng (x : Int) (t u v : Tok) : Obj := { cls := .type "range", dict := none, data := .fields #[.int 0 t, .int x u, .int 1 v], slots := #[] }
-- isinstance
noncomputable def notOk (K : Frag) (D C : Addr) : Bool := kin_not K D C && plainGet K D "__class__" && hasDictIn K D && decide (findIn K (.ref D) "__class__" = some (some (.builtin "object.__class__"))) &&
  decide (specialIn K (.builtin "object.__class__") "__get__" = some (some (.builtin "getset_descriptor.__get__"))) && decide (takesIn K (.builtin "object.__class__") = some true) && decide (mroIn K D (.type "object") = some true)
theorem p_isi {x dx C D : Addr} {od : Obj} {Q : Value → Loc → Led → Prop} (hc : c.Ok w) (e : isIn (KF w.params) (.ref C) D = true) (h1 : (x, instObj C dx) ∈ N) (h2 : (dx, od) ∈ N) (h : Q (.bool true) m N) :
    Sat w c f (call (.builtin "isinstance") [.ref x, .ref D]) m N Q := fun _ M _ F X O hR =>
  isi_call (hc.X.keeps F.keep) (fun _ => (InstAt.of_news X (List.mem_append_left _ h1) (List.mem_append_left _ h2)).type) e (by intro q; cases q) (hR _ _ _ _ _ h F X O)
theorem p_isn {x dx C D : Addr} {od : Obj} {Q : Value → Loc → Led → Prop} (hc : c.Ok w) (e : notOk (KF w.params) C D = true) (h1 : (x, instObj C dx) ∈ N) (h2 : (dx, od) ∈ N) (h : Q (.bool false) m N) :
    Sat w c f (call (.builtin "isinstance") [.ref x, .ref D]) m N Q := fun _ M _ F X O hR => by
  simp only [notOk, Bool.and_eq_true, decide_eq_true_eq] at e
  obtain ⟨⟨⟨⟨⟨⟨a1, a2⟩, a3⟩, a4⟩, a5⟩, a6⟩, a7⟩ := e
  exact kin_callC (hc.X.keeps F.keep) (InstAt.of_news X (List.mem_append_left _ h1) (List.mem_append_left _ h2)) a1 a2 a3 a4 a5 a6 a7 (hR _ _ _ _ _ h F X O)

-- items
theorem p_item {value slice : Expr} {l : Addr} {vs : List Value} {n : Nat} {k : Int} {u : Tok} {v : Value} {Q : Value → Loc → Led → Prop} (hm : (l, lst vs n) ∈ N) (h0 : 0 ≤ k) (hk : k < 2 ^ 62) (hv : vs[k.toNat]? = some v) (h : Q v m N)
    (hs : subscripted slice false (.ref l) (.int k u) = operate [.ref l, .int k u] (getItem (.ref l) (.int k u)) := by with_unfolding_all rfl) : Sat w c f (subscriptTail value slice (.ref l) (.int k u)) m N Q := fun _ M _ F X O hR =>
  tail_any (ofNews X hm).typeIs slot_list_getitem.lookup (wpAny_getItem_list (ofNews X hm) h0 (by omega) (by simpa using hv) (hR _ _ _ _ _ h F X O)) hs
theorem p_itemT {value slice : Expr} {l : Addr} {vs : List Value} {k : Int} {u : Tok} {v : Value} {Q : Value → Loc → Led → Prop} (hm : (l, tup vs) ∈ N) (h0 : 0 ≤ k) (hk : k < 2 ^ 62) (hv : vs[k.toNat]? = some v) (h : Q v m N)
    (hs : subscripted slice false (.ref l) (.int k u) = operate [.ref l, .int k u] (getItem (.ref l) (.int k u)) := by with_unfolding_all rfl) : Sat w c f (subscriptTail value slice (.ref l) (.int k u)) m N Q := fun _ M _ F X O hR => by
  refine item_tupleT (ofNewsT X hm) (by omega) (by omega) (j := k.toNat) ?_ hv (hR _ _ _ _ _ h F X O) hs
  have : k.toNat < vs.length := by
    rcases Nat.lt_or_ge k.toNat vs.length with q | q
    · exact q
    · rw [List.getElem?_eq_none q] at hv; cases hv
  unfold seqIndex?
  rw [if_neg (show ¬ k < 0 by omega)]
  simp only [Bool.and_eq_true, decide_eq_true_eq]
  rw [if_pos ⟨h0, by omega⟩]
theorem p_itemS {value slice : Expr} {x : Str} {t : Tok} {k : Int} {u : Tok} {Q : Value → Loc → Led → Prop} (h0 : 0 ≤ k) (hk : k < x.length) (hx : x.length < 2 ^ 62) (h : ∀ t, Q (.str (Txt.item x k) t) m N)
    (hs : subscripted slice false (.str x t) (.int k u) = operate [.str x t, .int k u] (getItem (.str x t) (.int k u)) := by with_unfolding_all rfl)
    (ht : ∀ r, letTemporaryGo value (.str x t) r = pure () := by intro _; with_unfolding_all rfl) : Sat w c f (subscriptTail value slice (.str x t) (.int k u)) m N Q := fun _ M _ F X O hR =>
  item_str (by unfold fitsSsize; rw [Bool.not_eq_true', Bool.or_eq_false_iff]; constructor <;> exact decide_eq_false (by omega)) (by omega) hk (fun _ => hR _ _ _ _ _ (h _) F X O) hs ht
theorem p_len {l : Addr} {vs : List Value} {n : Nat} {Q : Value → Loc → Led → Prop} (hm : (l, lst vs n) ∈ N) (hz : vs.length ≤ 16384) (h : ∀ t, Q (.int vs.length t) m N) : Sat w c f (call (.builtin "len") [.ref l]) m N Q := fun _ M _ F X O hR =>
  kun_lenL (k := vs.length) (ofNews X hm) (by simp) (by omega) (hR _ _ _ _ _ (h _) F X O)

-- ints
theorem p_add {a b : Int} {t u : Tok} {Q : Value → Loc → Led → Prop} (h : ∀ t, Q (.int (a + b) t) m N) : Sat w c f (binaryOp .Add (.int a t) (.int b u)) m N Q := fun _ M _ F X O hR => PyProof.Rows.add_int (hR _ _ _ _ _ (h _) F X O)
theorem p_sub {a b : Int} {t u : Tok} {Q : Value → Loc → Led → Prop} (h : ∀ t, Q (.int (a - b) t) m N) : Sat w c f (binaryOp .Sub (.int a t) (.int b u)) m N Q := fun _ M _ F X O hR => PyProof.Rows.sub_int (hR _ _ _ _ _ (h _) F X O)
theorem p_mod {a b : Int} {t u : Tok} {Q : Value → Loc → Led → Prop} (hb : b ≠ 0) (h : ∀ t, Q (.int (a.fmod b) t) m N) : Sat w c f (binaryOp .Mod (.int a t) (.int b u)) m N Q := fun _ M _ F X O hR => mod_int' hb (hR _ _ _ _ _ (h _) F X O)
theorem p_div {a b : Int} {t u : Tok} {Q : Value → Loc → Led → Prop} (hb : b ≠ 0) (hp : Builtin.divisionGoesByPylong a b = false) (h : ∀ t, Q (.int (a.fdiv b) t) m N) : Sat w c f (binaryOp .FloorDiv (.int a t) (.int b u)) m N Q := fun _ M _ F X O hR => floordiv_int hb (hR _ _ _ _ _ (h _) F X O) (.inl hp)
theorem p_band {a b : Int} {t u : Tok} {Q : Value → Loc → Led → Prop} (h : ∀ t, Q (.int (Builtin.bitAnd a b) t) m N) : Sat w c f (binaryOp .BitAnd (.int a t) (.int b u)) m N Q := fun _ M _ F X O hR => and_int (hR _ _ _ _ _ (h _) F X O)
theorem p_bor {a b : Int} {t u : Tok} {Q : Value → Loc → Led → Prop} (h : ∀ t, Q (.int (Builtin.bitOr a b) t) m N) : Sat w c f (binaryOp .BitOr (.int a t) (.int b u)) m N Q := fun _ M _ F X O hR => or_int (hR _ _ _ _ _ (h _) F X O)
theorem p_shr {a b : Int} {t u : Tok} {Q : Value → Loc → Led → Prop} (hb : 0 ≤ b) (h : ∀ t, Q (.int (a.fdiv (2 ^ b.toNat)) t) m N) : Sat w c f (binaryOp .RShift (.int a t) (.int b u)) m N Q := fun _ M _ F X O hR => rshift_int hb (hR _ _ _ _ _ (h _) F X O)
theorem p_shl {a b : Int} {t u : Tok} {Q : Value → Loc → Led → Prop} (hb : 0 ≤ b) (hb2 : b ≤ 1000000) (ha : a.natAbs < 2 ^ 64) (h : ∀ t, Q (.int (a * 2 ^ b.toNat) t) m N) : Sat w c f (binaryOp .LShift (.int a t) (.int b u)) m N Q := fun _ M _ F X O hR => lshift_int_small hb hb2 ha (hR _ _ _ _ _ (h _) F X O)
theorem p_eqI {a b : Int} {t u : Tok} {Q : Value → Loc → Led → Prop} (h : Q (.bool (a == b)) m N) : Sat w c f (compareOp .Eq (.int a t) (.int b u)) m N Q := fun _ M _ F X O hR => PyProof.Rows.eq_int (hR _ _ _ _ _ h F X O)
theorem p_neI {a b : Int} {t u : Tok} {Q : Value → Loc → Led → Prop} (h : Q (.bool (a != b)) m N) : Sat w c f (compareOp .NotEq (.int a t) (.int b u)) m N Q := fun _ M _ F X O hR => PyProof.Rows.ne_int (hR _ _ _ _ _ h F X O)
theorem p_lt {a b : Int} {t u : Tok} {Q : Value → Loc → Led → Prop} (h : Q (.bool (decide (a < b))) m N) : Sat w c f (compareOp .Lt (.int a t) (.int b u)) m N Q := fun _ M _ F X O hR => PyProof.Rows.lt_int (hR _ _ _ _ _ h F X O)
theorem p_gt {a b : Int} {t u : Tok} {Q : Value → Loc → Led → Prop} (h : Q (.bool (decide (b < a))) m N) : Sat w c f (compareOp .Gt (.int a t) (.int b u)) m N Q := fun _ M _ F X O hR => PyProof.Rows.gt_int (hR _ _ _ _ _ h F X O)
theorem p_eqS {a b : Str} {t u : Tok} {Q : Value → Loc → Led → Prop} (h : Q (.bool (a == b)) m N) : Sat w c f (compareOp .Eq (.str a t) (.str b u)) m N Q := fun _ M _ F X O hR => PyProof.Rows.eq_str (hR _ _ _ _ _ h F X O)
theorem p_neS {a b : Str} {t u : Tok} {Q : Value → Loc → Led → Prop} (h : Q (.bool (a != b)) m N) : Sat w c f (compareOp .NotEq (.str a t) (.str b u)) m N Q := fun _ M _ F X O hR => PyProof.Rows.ne_str (hR _ _ _ _ _ h F X O)
theorem p_eqB {a b : Bool} {Q : Value → Loc → Led → Prop} (h : Q (.bool (a == b)) m N) : Sat w c f (compareOp .Eq (.bool a) (.bool b)) m N Q := fun _ M _ F X O hR => eq_bool (hR _ _ _ _ _ h F X O)
theorem p_neB {a b : Bool} {Q : Value → Loc → Led → Prop} (h : Q (.bool (a != b)) m N) : Sat w c f (compareOp .NotEq (.bool a) (.bool b)) m N Q := fun _ M _ F X O hR => ne_bool (hR _ _ _ _ _ h F X O)
theorem p_absI {a : Int} {t : Tok} {Q : Value → Loc → Led → Prop} (h : ∀ t, Q (.int (if a < 0 then -a else a) t) m N) : Sat w c f (call (.builtin "abs") [.int a t]) m N Q := fun _ M _ F X O hR => call_abs_int fun _ _ => hR _ _ _ _ _ (h _) F X O
theorem p_min {a b : Int} {t u : Tok} {Q : Value → Loc → Led → Prop} (h : ∀ t, Q (.int (if b < a then b else a) t) m N) : Sat w c f (call (.builtin "min") [.int a t, .int b u]) m N Q := fun _ M _ F X O hR =>
  min_two_N rfl F X fun _ _ F' X' => hR _ _ _ _ _ (h _) F' X' O

-- None
theorem p_isNone {v : Value} {Q : Value → Loc → Led → Prop} (h : Q (.bool true) m N) : Sat w c f (compareOp .Is .none .none) m N Q := fun _ M _ F X O hR => wpAny_is_self rfl (hR _ _ _ _ _ h F X O)
theorem p_isNotNone {v : Value} {Q : Value → Loc → Led → Prop} (h : Q (.bool false) m N) : Sat w c f (compareOp .IsNot .none .none) m N Q := fun _ M _ F X O hR => wpAny_isNot_self rfl (hR _ _ _ _ _ h F X O)
theorem p_isR {v : Value} {Q : Value → Loc → Led → Prop} (hv : v ≠ .none) (h : Q (.bool false) m N) (hp : plainIs v .none = true := by rfl) : Sat w c f (compareOp .Is v .none) m N Q := fun _ M _ F X O hR => wpAny_is_other hp hv (hR _ _ _ _ _ h F X O)
theorem p_isNotR {v : Value} {Q : Value → Loc → Led → Prop} (hv : v ≠ .none) (h : Q (.bool true) m N) (hp : plainIs v .none = true := by rfl) : Sat w c f (compareOp .IsNot v .none) m N Q := fun _ M _ F X O hR => wpAny_isNot_other hp hv (hR _ _ _ _ _ h F X O)

-- in
theorem p_inL {l : Addr} {vs : List Value} {n : Nat} {k : Int} {t : Tok} {ns : List Int} {Q : Value → Loc → Led → Prop} (hm : (l, lst vs n) ∈ N) (hi : IntsAre vs ns) (h : Q (.bool (ns.any (· == k))) m N) : Sat w c f (compareOp .In (.int k t) (.ref l)) m N Q := fun _ M _ F X O hR =>
  in_list_ints (ofNews X hm) hi (hR _ _ _ _ _ h F X O)
theorem p_ninL {l : Addr} {vs : List Value} {n : Nat} {k : Int} {t : Tok} {ns : List Int} {Q : Value → Loc → Led → Prop} (hm : (l, lst vs n) ∈ N) (hi : IntsAre vs ns) (h : Q (.bool (!(ns.any (· == k)))) m N) : Sat w c f (compareOp .NotIn (.int k t) (.ref l)) m N Q := fun _ M _ F X O hR =>
  notin_list_ints (ofNews X hm) hi (hR _ _ _ _ _ h F X O)
theorem p_inTI {l : Addr} {vs : List Value} {k : Int} {t : Tok} {ns : List Int} {Q : Value → Loc → Led → Prop} (hm : (l, tup vs) ∈ N) (hi : IntsAre vs ns) (h : Q (.bool (ns.any (· == k))) m N) : Sat w c f (compareOp .In (.int k t) (.ref l)) m N Q := fun _ M _ F X O hR =>
  in_tuple_ints (ofNewsT X hm) hi (hR _ _ _ _ _ h F X O)
theorem p_ninTI {l : Addr} {vs : List Value} {k : Int} {t : Tok} {ns : List Int} {Q : Value → Loc → Led → Prop} (hm : (l, tup vs) ∈ N) (hi : IntsAre vs ns) (h : Q (.bool (!(ns.any (· == k)))) m N) : Sat w c f (compareOp .NotIn (.int k t) (.ref l)) m N Q := fun _ M _ F X O hR =>
  notin_tuple_ints (ofNewsT X hm) hi (hR _ _ _ _ _ h F X O)
theorem p_inTS {l : Addr} {vs : List Value} {k : Str} {t : Tok} {ns : List Str} {Q : Value → Loc → Led → Prop} (hm : (l, tup vs) ∈ N) (hi : StrsAre vs ns) (h : Q (.bool (ns.any (· == k))) m N) : Sat w c f (compareOp .In (.str k t) (.ref l)) m N Q := fun _ M _ F X O hR =>
  in_tuple_strs (ofNewsT X hm) hi (hR _ _ _ _ _ h F X O)
theorem p_ninTS {l : Addr} {vs : List Value} {k : Str} {t : Tok} {ns : List Str} {Q : Value → Loc → Led → Prop} (hm : (l, tup vs) ∈ N) (hi : StrsAre vs ns) (h : Q (.bool (!(ns.any (· == k)))) m N) : Sat w c f (compareOp .NotIn (.str k t) (.ref l)) m N Q := fun _ M _ F X O hR =>
  notin_tuple_strs (ofNewsT X hm) hi (hR _ _ _ _ _ h F X O)

-- lists made
theorem p_cat {l b : Addr} {vs us : List Value} {n k : Nat} {Q : Value → Loc → Led → Prop} (h1 : (l, lst vs n) ∈ N) (h2 : (b, lst us k) ∈ N) (hz : vs.length + us.length ≤ 16384) (h : ∀ r, (∀ p ∈ N, p.1 < r) → Q (.ref r) m ((r, lst (vs ++ us) 0) :: N)) :
    Sat w c f (binaryOp .Add (.ref l) (.ref b)) m N Q := fun _ M _ F X O hR =>
  add_arrays F X (ofNews X h1) (ofNews X h2) (fun h' F' X' => hR _ _ _ _ _ (h _ fun p hp => Heap.lt_size (X p (List.mem_append_left _ hp)).1) F' (by simpa using X') (O.cons fun p hp => Heap.lt_size (X p hp).1)) (by rw [sizeLine_eq]; simp; omega)
theorem p_listL {l : Addr} {vs : List Value} {n : Nat} {Q : Value → Loc → Led → Prop} (h1 : (l, lst vs n) ∈ N) (hz : vs.length ≤ 16384) (h : ∀ r k, (∀ p ∈ N, p.1 < r) → Q (.ref r) m ((r, lst vs k) :: N)) :
    Sat w c f (call (.type "list") [.ref l]) m N Q := fun _ M _ F X O hR =>
  list_copyK F X (ofNews X h1) (fun D cc h' F' X' lt => hR _ _ _ _ _ (h _ _ fun p hp => lt p (List.mem_append_left _ hp)) F' X' (O.cons lt)) (by rw [sizeLine_eq]; simp; omega)
theorem p_tupL {l : Addr} {vs : List Value} {n : Nat} {Q : Value → Loc → Led → Prop} (h1 : (l, lst vs n) ∈ N) (hz : vs.length ≤ 16384) (h : ∀ r, (∀ p ∈ N, p.1 < r) → Q (.ref r) m ((r, tup vs) :: N)) :
    Sat w c f (call (.type "tuple") [.ref l]) m N Q := fun _ M _ F X O hR =>
  kde_tupleOf (zs := vs) F X (ofNews X h1) (by simpa using hz) rfl fun D h' F' X' lt => hR _ _ _ _ _ (h _ fun p hp => lt p (List.mem_append_left _ hp)) F' X' (O.cons lt)
theorem p_mul {l : Addr} {v : Value} {n : Nat} {x : Int} {u : Tok} {Q : Value → Loc → Led → Prop} (h1 : (l, lst [v] n) ∈ N) (h0 : 0 ≤ x) (hz : x ≤ 16384) (h : ∀ r, (∀ p ∈ N, p.1 < r) → Q (.ref r) m ((r, lst (List.replicate x.toNat v) 0) :: N)) :
    Sat w c f (binaryOp .Mult (.ref l) (.int x u)) m N Q := fun _ M _ F X O hR => by
  have e : List.foldl (fun x1 x2 => x1 ++ x2) #[] (List.replicate (if (#[v] : Array Value).isEmpty = true then 0 else x.toNat) #[v]) = (List.replicate x.toNat v).toArray := by
    have : (#[v] : Array Value).isEmpty = false := rfl
    rw [this]
    simp only [Bool.false_eq_true, if_false]
    have z : ∀ (k : Nat) (a : Array Value), List.foldl (fun x1 x2 => x1 ++ x2) a (List.replicate k #[v]) = a ++ (List.replicate k v).toArray := by
      intro k
      induction k with
      | zero => intro a; simp
      | succ k ih => intro a; rw [List.replicate_succ, List.foldl_cons, ih, List.replicate_succ]; apply Array.toList_inj.mp; simp
    rw [z]; simp
  refine mul_list (items := #[v]) F X ((X _ (List.mem_append_left _ h1)).1) (by omega) (by omega) (by simp; omega) fun h' F' X' => ?_
  rw [e] at X'
  exact hR _ _ _ _ _ (h _ fun p hp => Heap.lt_size (X p (List.mem_append_left _ hp)).1) F' X' (O.cons fun p hp => Heap.lt_size (X p hp).1)
theorem p_getApp {l : Addr} {vs : List Value} {n : Nat} {pl : Sem Bool} {Q : Value × List Value → Loc → Led → Prop} (hm : (l, lst vs n) ∈ N) (h : Q (.builtin "list.append", [.ref l]) m N) : Sat w c f (getMethod (.ref l) (s "append") pl) m N Q := fun _ M _ F X O hR =>
  getMethod_append_N X (List.mem_append_left _ hm) (hR _ _ _ _ _ h F X O)
theorem p_app {l : Addr} {vs : List Value} {n : Nat} {v : Value} {N' : Led} {Q : Value → Loc → Led → Prop} (U : Upd l (lst vs n) (lst (vs ++ [v]) (n + 1)) N N') (hz : vs.length ≤ 16384) (h : Q .none m N') : Sat w c f (call (.builtin "list.append") [.ref l, v]) m N Q := fun _ M _ F X O hR => by
  have hm := (upd_mem U)
  refine append_K (its := vs.toArray) (n := n) F X (news' := N' ++ M) (by simpa [lst] using upd_app U (off_ne O hm.1)) (fun h' F' X' => hR _ _ _ _ _ h F' X' (off_map hm.2 O)) (by rw [sizeLine_eq]; simp; omega)
theorem p_range {x : Int} {t : Tok} {Q : Value → Loc → Led → Prop} (h : ∀ r t u v, (∀ p ∈ N, p.1 < r) → Q (.ref r) m ((r, rng x t u v) :: N)) : Sat w c f (call (.type "range") [.int x t]) m N Q := fun s M _ F X O hR =>
  call_range_1 (hR _ _ _ _ _ (h _ _ _ _ fun p hp => Heap.lt_size (X p (List.mem_append_left _ hp)).1) (F.push _) (X.push F _) (O.cons fun p hp => Heap.lt_size (X p hp).1))
-- dicts
theorem p_dict {pos : Pos} {Q : Value → Loc → Led → Prop} (hc : c.Ok w) (h : ∀ d o, (∀ p ∈ N, p.1 < d) → o.IsDictOf (intKind P0 w) [] → Q (.ref d) m ((d, o) :: N)) : Sat w c f (eval (.Dict [] [] pos) env) m N Q := fun _ M _ F X O hR =>
  let ⟨_, _, T⟩ := hc.T
  newDict_K F X T.nolimit fun d h' o F' X' lt _ _ _ a _ => hR _ _ _ _ _ (h d o (fun p hp => lt p (List.mem_append_left _ hp)) a) F' X' (O.cons lt)
theorem p_itemD {value slice : Expr} {d : Addr} {o : Obj} {kvs : List (Int × Value)} {k : Int} {t : Tok} {v : Value} {Q : Value → Loc → Led → Prop} (hm : (d, o) ∈ N) (hd : o.IsDictOf (intKind P0 w) kvs) (hl : valueAt kvs k = some v) (h : Q v m N)
    (hs : subscripted slice false (.ref d) (.int k t) = operate [.ref d, .int k t] (getItem (.ref d) (.int k t)) := by with_unfolding_all rfl) : Sat w c f (subscriptTail value slice (.ref d) (.int k t)) m N Q := fun _ M _ F X O hR =>
  kdt_tail (knd := intKind P0 w) X (List.mem_append_left _ hm) hd (kdt_getItem (knd := intKind P0 w) X (List.mem_append_left _ hm) hd (intKind_is _ _ _ _) hl (hR _ _ _ _ _ h F X O)) hs
end
section
variable {α β : Type} {w : World} {c : Fx} {f : Fn} {m : Loc} {N : Led} {env : Env}
theorem Sat.at {t : Sem α} {Q : α → Loc → Led → Prop} (h : Sat w c f t m N Q) {s : Shared} {M : Led} {R : α → Shared → Prop} {E : Value → Shared → Prop} (F : Fr c.h₀ c.L s.heap m) (X : News c.h₀ c.L s.heap (N ++ M)) (O : Off N M)
    (hR : ∀ a m' N' h' tk', Q a m' N' → Fr c.h₀ c.L h' m' → News c.h₀ c.L h' (N' ++ M) → Off N' M → R a { s with heap := h', toks := tk' }) : wpAny (model P0 w) (c.A f) t R E s :=
  wpAny_mono (h s M R F X O hR) (fun _ _ x => x) fun _ _ x => x.elim
theorem news_out {h₀ h h' : Heap} {L I : Addr} {N M : Led} {io : Obj} (X : News h₀ L h (N ++ (I, io) :: M)) (hN : ∀ p ∈ N, p.1 ≠ I) (hM : ∀ p ∈ M, p.1 ≠ I) (hs : Heap.ExtBut I h h') : News h₀ L h' (N ++ M) := fun p hp => by
  rcases List.mem_append.mp hp with hp | hp
  · exact ⟨hs _ _ (hN p hp) (X p (List.mem_append_left _ hp)).1, (X p (List.mem_append_left _ hp)).2⟩
  · exact ⟨hs _ _ (hM p hp) (X p (List.mem_append_right _ (.tail _ hp))).1, (X p (List.mem_append_right _ (.tail _ hp))).2⟩
theorem fr_out {h₀ h h' : Heap} {L I : Addr} {m : Loc} (F : Fr h₀ L h m) (hI : h₀.get? I = none) (hL : I ≠ L) (hs : Heap.ExtBut I h h') : Fr h₀ L h' m :=
  ⟨F.ns.extBut hs hL.symm, fun b o e => hs b o (by rintro rfl; rw [hI] at e; cases e) (F.keep b o e), F.above⟩
theorem news_put {h₀ h h' : Heap} {L I : Addr} {N M : Led} {io io' : Obj} (X : News h₀ L h (N ++ (I, io) :: M)) (hN : ∀ p ∈ N, p.1 ≠ I) (hM : ∀ p ∈ M, p.1 ≠ I) (hs : Heap.SameBut I h h') (hg : h'.get? I = some io') : News h₀ L h' (N ++ (I, io') :: M) := fun p hp => by
  rcases List.mem_append.mp hp with hp | hp
  · exact ⟨(hs.2 _ (hN p hp)).trans (X p (List.mem_append_left _ hp)).1, (X p (List.mem_append_left _ hp)).2⟩
  · rcases List.mem_cons.mp hp with rfl | hp
    · exact ⟨hg, (X (I, io) (List.mem_append_right _ (.head _))).2⟩
    · exact ⟨(hs.2 _ (hM p hp)).trans (X p (List.mem_append_right _ (.tail _ hp))).1, (X p (List.mem_append_right _ (.tail _ hp))).2⟩
theorem off_swap {N M : Led} {I : Addr} {io io' : Obj} (O : Off N ((I, io) :: M)) : Off N ((I, io') :: M) := fun p hp q hq => by
  rcases List.mem_cons.mp hq with rfl | hq
  · exact O p hp (I, io) (.head _)
  · exact O p hp q (.tail _ hq)
theorem off_in {N M : Led} {I : Addr} {io : Obj} (O : Off N M) (k : ∀ p ∈ N, p.1 < I) : Off N ((I, io) :: M) := fun p hp q hq => by
  rcases List.mem_cons.mp hq with rfl | hq
  · exact Nat.ne_of_lt (k p hp)
  · exact O p hp q hq
theorem news_in {h₀ h : Heap} {L : Addr} {m : Loc} {N M : Led} {o : Obj} (F : Fr h₀ L h m) (X : News h₀ L h (N ++ M)) (hf : o.isFreed = false) : News h₀ L (h.push o) (N ++ (h.objs.size, o) :: M) := fun p hp => by
  have X' := X.push F o hf
  rcases List.mem_append.mp hp with hp | hp
  · exact X' p (.tail _ (List.mem_append_left _ hp))
  · rcases List.mem_cons.mp hp with rfl | hp
    · exact X' _ (.head _)
    · exact X' p (.tail _ (List.mem_append_right _ hp))

/-- for over a list of the ledger -/
theorem sat_forL {x : Str} {px pos : Pos} {iter : Expr} {body : List Stmt} {Q : Flow → Loc → Led → Prop}
    (h : Sat w c f (eval iter env) m N fun v m₁ N₁ => ∃ l vs n, v = .ref l ∧ ∃ J : Nat → Loc → Led → Prop, J 0 m₁ N₁ ∧ (∀ i m N, J i m N → (l, lst vs n) ∈ N) ∧
      (∀ i u m N, vs[i]? = some u → J i m N → Sat w c f (storeName env x u) m N fun _ m' N' => Sat w c f (execs body env) m' N' fun fl m₂ N₂ => match fl with
        | .next | .cont => J (i + 1) m₂ N₂
        | .brk => Q .next m₂ N₂
        | .ret v => Q (.ret v) m₂ N₂) ∧
      (∀ m N, J vs.length m N → Q .next m N))
    (hs : ∀ x, foldedSetIterable iter env x = pure x := by intro _; rfl) : Sat w c f (exec (.For (.Name x px) iter body [] pos) env) m N Q := by
  intro s M R F X O hR
  refine wpAny_For (h s M _ F X O fun v m₁ N₁ h₁ t₁ q F₁ X₁ O₁ => ?_) hs
  obtain ⟨l, vs, n, rfl, J, J0, Jm, turn, fin⟩ := q
  refine wpAny_pyIter_list (ofNews X₁ (Jm _ _ _ J0)) ?_
  have hM : ∀ p ∈ M, p.1 ≠ h₁.objs.size := fun p hp => Nat.ne_of_lt (Heap.lt_size (X₁ p (List.mem_append_right _ hp)).1)
  refine codeAny_forLoop_any (fun k s' => ∃ i m N h' tk io, s' = { s with heap := h', toks := tk } ∧ i ≤ vs.length ∧ k = vs.length + 1 - i ∧ J i m N ∧ Fr c.h₀ c.L h' m ∧ News c.h₀ c.L h' (N ++ (h₁.objs.size, io) :: M) ∧ Off N ((h₁.objs.size, io) :: M) ∧ h'.IsListIter h₁.objs.size l i)
    ?_ (vs.length + 1) ⟨0, m₁, N₁, _, t₁, _, rfl, Nat.zero_le _, rfl, J0, F₁.push _, news_in F₁ X₁ rfl, off_in O₁ fun p hp => Heap.lt_size (X₁ p (List.mem_append_left _ hp)).1, ⟨_, Heap.get?_push_size _ rfl, rfl, rfl⟩⟩
  rintro k s' ⟨i, m, N, h', tk, io, rfl, hi, rfl, hJ, F', X', O', hit⟩
  have hN : ∀ p ∈ N, p.1 ≠ h₁.objs.size := fun p hp => O' p hp _ (.head _)
  have hI := X' (h₁.objs.size, io) (List.mem_append_right _ (.head _))
  by_cases hlt : i < vs.length
  · refine wpAny_pyNext_list_item hit (ofNews X' (Jm _ _ _ hJ)) (x := vs[i]) (by simp [hlt]) fun h₂ hit₂ hs₂ => ?_
    obtain ⟨io₂, g₂, _, _⟩ := id hit₂
    have F₂ : Fr c.h₀ c.L h₂ m := F'.change hs₂ hI.2.1 hI.2.2
    refine wpAny_pure (wpAny_assign_Name ?_)
    refine (turn i vs[i] m N (by simp [hlt]) hJ).at F₂ (news_put X' hN hM hs₂ g₂) (off_swap O') fun _ m₃ N₃ h₃ t₃ q F₃ X₃ O₃ => ?_
    refine q.at F₃ X₃ O₃ fun fl m₄ N₄ h₄ t₄ q₄ F₄ X₄ O₄ => ?_
    have h4 := X₄ (h₁.objs.size, io₂) (List.mem_append_right _ (.head _))
    have fit : h₄.IsListIter h₁.objs.size l (i + 1) := by
      obtain ⟨o', a, b⟩ := hit₂
      rw [g₂] at a; cases a
      exact ⟨io₂, h4.1, b⟩
    have out := news_out X₄ (fun p hp => O₄ p hp _ (.head _)) hM (Heap.ExtBut.refl h₁.objs.size h₄)
    have oo : Off N₄ M := fun p hp q hq => O₄ p hp q (.tail _ hq)
    cases fl with
    | next => exact ⟨vs.length + 1 - (i + 1), by omega, i + 1, m₄, N₄, h₄, t₄, io₂, rfl, hlt, rfl, q₄, F₄, X₄, O₄, fit⟩
    | cont => exact ⟨vs.length + 1 - (i + 1), by omega, i + 1, m₄, N₄, h₄, t₄, io₂, rfl, hlt, rfl, q₄, F₄, X₄, O₄, fit⟩
    | brk => exact hR _ _ _ _ _ q₄ F₄ out oo
    | ret v => exact hR _ _ _ _ _ q₄ F₄ out oo
  · have : i = vs.length := by omega
    subst this
    refine wpAny_pyNext_list_end rfl hit (ofNews X' (Jm _ _ _ hJ)) (by simp) fun h₂ hs₂ => wpAny_execs_nil ?_
    exact hR _ _ _ _ _ (fin _ _ hJ) (fr_out F' hI.2.2 hI.2.1 hs₂) (news_out X' hN hM hs₂) fun p hp q hq => O' p hp q (.tail _ hq)

theorem small_nat {n : Nat} (h : n ≤ 1000000) : Builtin.Range.small 0 n 1 = true ∧ Builtin.Range.rangeSize 0 n 1 = n := by
  have e : Builtin.Range.rangeSize 0 n 1 = n := by rw [rangeSize_nat]; simp
  refine ⟨?_, e⟩
  have q : ∀ i : Int, -5 ≤ i → i ≤ 2000000 → Builtin.Range.rangeFitsLong i = true := fun i h1 h2 => by
    unfold Builtin.Range.rangeFitsLong
    simp only [Bool.and_eq_true, Bool.not_eq_true', decide_eq_true_eq, decide_eq_false_iff_not]
    omega
  unfold Builtin.Range.small
  rw [e, q 0 (by omega) (by omega), q n (by omega) (by omega), q 1 (by omega) (by omega), if_pos (by decide), q _ (by omega) (by omega), Bool.or_true]; rfl
/-- for over range(n) -/
theorem sat_forR {x : Str} {px pos : Pos} {iter : Expr} {body : List Stmt} {Q : Flow → Loc → Led → Prop}
    (h : Sat w c f (eval iter env) m N fun v m₁ N₁ => ∃ (r : Addr) (n : Nat) (t u v' : Tok), v = .ref r ∧ n ≤ 1000000 ∧ (r, rng n t u v') ∈ N₁ ∧ ∃ J : Nat → Loc → Led → Prop, J 0 m₁ N₁ ∧
      (∀ i k m N, i < n → J i m N → Sat w c f (storeName env x (.int i k)) m N fun _ m' N' => Sat w c f (execs body env) m' N' fun fl m₂ N₂ => match fl with
        | .next | .cont => J (i + 1) m₂ N₂
        | .brk => Q .next m₂ N₂
        | .ret v => Q (.ret v) m₂ N₂) ∧
      (∀ m N, J n m N → Q .next m N))
    (hs : ∀ x, foldedSetIterable iter env x = pure x := by intro _; rfl) : Sat w c f (exec (.For (.Name x px) iter body [] pos) env) m N Q := by
  intro s M R F X O hR
  refine wpAny_For (h s M _ F X O fun v m₁ N₁ h₁ t₁ q F₁ X₁ O₁ => ?_) hs
  obtain ⟨r, n, t, u, v', rfl, hn, hr, J, J0, turn, fin⟩ := q
  refine wpAny_pyIter_range (X₁ _ (List.mem_append_left _ hr)).1 (small_nat hn).1 ?_
  have hM : ∀ p ∈ M, p.1 ≠ h₁.objs.size := fun p hp => Nat.ne_of_lt (Heap.lt_size (X₁ p (List.mem_append_right _ hp)).1)
  refine codeAny_forLoop_any (fun k s' => ∃ i m N h' tk io, s' = { s with heap := h', toks := tk } ∧ i ≤ n ∧ k = n + 1 - i ∧ J i m N ∧ Fr c.h₀ c.L h' m ∧ News c.h₀ c.L h' (N ++ (h₁.objs.size, io) :: M) ∧ Off N ((h₁.objs.size, io) :: M) ∧ IsRangeIter h' h₁.objs.size i ((n : Int) - (i : Nat)) 1)
    ?_ (n + 1) ⟨0, m₁, N₁, _, t₁, _, rfl, Nat.zero_le _, rfl, J0, F₁.push _, news_in F₁ X₁ rfl, off_in O₁ fun p hp => Heap.lt_size (X₁ p (List.mem_append_left _ hp)).1, by rw [(small_nat hn).2]; simpa using Heap.get?_push_size _ rfl⟩
  rintro k s' ⟨i, m, N, h', tk, io, rfl, hi, rfl, hJ, F', X', O', hit⟩
  have hN : ∀ p ∈ N, p.1 ≠ h₁.objs.size := fun p hp => O' p hp _ (.head _)
  have hI := X' (h₁.objs.size, io) (List.mem_append_right _ (.head _))
  by_cases hlt : i < n
  · refine wpAny_pyNext_range_item hit (by omega) fun h₂ hit₂ hs₂ => ?_
    have F₂ : Fr c.h₀ c.L h₂ m := F'.change hs₂ hI.2.1 hI.2.2
    refine wpAny_pure (wpAny_assign_Name ?_)
    refine (turn i _ m N hlt hJ).at F₂ (news_put X' hN hM hs₂ hit₂) (off_swap O') fun _ m₃ N₃ h₃ t₃ q F₃ X₃ O₃ => ?_
    refine q.at F₃ X₃ O₃ fun fl m₄ N₄ h₄ t₄ q₄ F₄ X₄ O₄ => ?_
    have fit : IsRangeIter h₄ h₁.objs.size ((i + 1 : Nat) : Int) ((n : Int) - ((i + 1 : Nat) : Int)) 1 := by
      have h4 := (X₄ (h₁.objs.size, _) (List.mem_append_right _ (.head _))).1
      rw [show ((i + 1 : Nat) : Int) = (i : Int) + 1 by omega, show (n : Int) - ((i : Int) + 1) = (n : Int) - i - 1 by omega]
      exact h4
    have out := news_out X₄ (fun p hp => O₄ p hp _ (.head _)) hM (Heap.ExtBut.refl h₁.objs.size h₄)
    have oo : Off N₄ M := fun p hp q hq => O₄ p hp q (.tail _ hq)
    cases fl with
    | next => exact ⟨n + 1 - (i + 1), by omega, i + 1, m₄, N₄, h₄, t₄, _, rfl, hlt, rfl, q₄, F₄, X₄, O₄, fit⟩
    | cont => exact ⟨n + 1 - (i + 1), by omega, i + 1, m₄, N₄, h₄, t₄, _, rfl, hlt, rfl, q₄, F₄, X₄, O₄, fit⟩
    | brk => exact hR _ _ _ _ _ q₄ F₄ out oo
    | ret v => exact hR _ _ _ _ _ q₄ F₄ out oo
  · have : i = n := by omega
    subst this
    refine wpAny_pyNext_range_end rfl hit (by omega) fun h₂ hs₂ => wpAny_execs_nil ?_
    exact hR _ _ _ _ _ (fin _ _ hJ) (fr_out F' hI.2.2 hI.2.1 hs₂) (news_out X' hN hM hs₂) fun p hp q hq => O' p hp q (.tail _ hq)

theorem sat_while {test : Expr} {body : List Stmt} {pos : Pos} {Q : Flow → Loc → Led → Prop} (J : Nat → Loc → Led → Prop) (k : Nat) (h0 : J k m N)
    (turn : ∀ k m N, J k m N → Sat w c f (isTrue test env (eval test env)) m N fun b m' N' => if b = true then Sat w c f (execs body env) m' N' fun fl m₂ N₂ => match fl with
        | .next | .cont => ∃ k', k' < k ∧ J k' m₂ N₂
        | .brk => Q .next m₂ N₂
        | .ret v => Q (.ret v) m₂ N₂
      else Q .next m' N') : Sat w c f (exec (.While test body [] pos) env) m N Q := by
  intro s M R F X O hR
  refine wpAny_While (codeAny_whileLoop (fun k s' => ∃ m N h' tk, s' = { s with heap := h', toks := tk } ∧ J k m N ∧ Fr c.h₀ c.L h' m ∧ News c.h₀ c.L h' (N ++ M) ∧ Off N M) ?_ k ⟨m, N, s.heap, s.toks, rfl, h0, F, X, O⟩)
  rintro k s' ⟨m, N, h', tk, rfl, hJ, F', X', O'⟩
  refine (turn k m N hJ).at F' X' O' fun b m₂ N₂ h₂ t₂ q F₂ X₂ O₂ => ?_
  cases b with
  | false => exact wpAny_execs_nil (hR _ _ _ _ _ q F₂ X₂ O₂)
  | true =>
    simp only [if_true] at q ⊢
    refine q.at F₂ X₂ O₂ fun fl m₄ N₄ h₄ t₄ q₄ F₄ X₄ O₄ => ?_
    cases fl with
    | next => obtain ⟨k', lt, hJ'⟩ := q₄; exact ⟨k', lt, _, _, _, _, rfl, hJ', F₄, X₄, O₄⟩
    | cont => obtain ⟨k', lt, hJ'⟩ := q₄; exact ⟨k', lt, _, _, _, _, rfl, hJ', F₄, X₄, O₄⟩
    | brk => exact hR _ _ _ _ _ q₄ F₄ X₄ O₄
    | ret v => exact hR _ _ _ _ _ q₄ F₄ X₄ O₄
end
/-- a block's own names: x stands in o -/
noncomputable def Bnd (o : Obj) (x : Str) (v : Value) : Prop := ∃ (es : Array DictEntry) (ep : Nat) (mC : Loc), o.data = .dict es ep ∧ StrKeys es ∧ (∀ name, nsFind es name = mC name) ∧ mC x = some v
theorem Bnd.ns {h : Heap} {C : Addr} {o : Obj} {x : Str} {v : Value} (B : Bnd o x v) (hg : h.get? C = some o) : ∃ mC, h.Ns C mC ∧ mC x = some v := let ⟨es, ep, mC, a, b, e, d⟩ := B; ⟨mC, ⟨o, es, ep, hg, a, b, e⟩, d⟩
section
variable {α β : Type} {w : World} {c : Fx} {f : Fn} {m : Loc} {N : Led} {env : Env}
noncomputable def compOk (sc : Scope) (x : Str) : Bool := sc.names.all (fun y => decide (y.2 ≠ .cell) && (decide (y.2 ≠ .local) || decide (sc.names.lookup y.1 = some .local))) && decide (sc.names.lookup x = some .local) && (match sc.kind with | .function => true | _ => false)
structure CompOk (sc : Scope) (x : Str) : Prop where
  cell : ∀ y ∈ sc.names, y.2 ≠ .cell
  names : ∀ y ∈ sc.names, y.2 = .local → sc.names.lookup y.1 = some .local
  x : sc.names.lookup x = some .local
  kind : sc.kind = .function
theorem compOk_of {sc : Scope} {x : Str} (h : compOk sc x = true) : CompOk sc x := by
  simp only [compOk, Bool.and_eq_true, List.all_eq_true, decide_eq_true_eq, Bool.or_eq_true] at h
  refine ⟨fun y hy => (h.1.1 y hy).1, fun y hy e => (h.1.1 y hy).2.elim (fun q => absurd e q) id, h.1.2, ?_⟩
  have := h.2
  cases hk : sc.kind <;> simp_all

/-- a list built over a list -/
theorem sat_comp {elt iter : Expr} {x : Str} {px pos : Pos} {ifs : List Expr} {scope : Scope} {cl : List (Str × Addr)} {Q : Value → Loc → Led → Prop}
    (hclos : closureFor scope env = pure cl) (ok : CompOk scope x)
    (h : Sat w c f (eval iter env) m N fun v m₁ N₁ => ∃ l vs n, v = .ref l ∧ vs.length ≤ 16384 ∧ ∃ J : Nat → List Value → Led → Prop, J 0 [] N₁ ∧ (∀ i ys N, J i ys N → (l, lst vs n) ∈ N) ∧
      (∀ i u ys N C o, vs[i]? = some u → J i ys N → Bnd o x u → Off N [(C, o)] →
        Sat w c f (forIn ifs true fun t r => if r = true then do let ok ← isTrue t (compEnvC scope cl C env) (eval t (compEnvC scope cl C env)); pure (ForInStep.yield ok) else pure (ForInStep.yield r)) m₁ (N ++ [(C, o)]) fun b m' N' => m' = m₁ ∧ ∃ N₂, N' = N₂ ++ [(C, o)] ∧ Off N₂ [(C, o)] ∧
          if b = true then Sat w c f (eval elt (compEnvC scope cl C env)) m₁ (N₂ ++ [(C, o)]) fun y m'' N'' => m'' = m₁ ∧ ∃ N₃, N'' = N₃ ++ [(C, o)] ∧ Off N₃ [(C, o)] ∧ J (i + 1) (ys ++ [y]) N₃ else J (i + 1) ys N₂) ∧
      (∀ D ys k N, J vs.length ys N → (∀ p ∈ N, p.1 ≠ D) → ys.length ≤ vs.length → Q (.ref D) m₁ ((D, lst ys k) :: N)))
    (hs : ∀ x, foldedSetIterable iter env x = pure x := by intro _; rfl) : Sat w c f (eval (.ListComp elt [⟨.Name x px, iter, ifs, 0⟩] scope pos) env) m N Q := by
  intro s M R F X O hR
  rw [eval_ListComp]
  refine wpAny_comprehension_free (use := none) rfl hs hclos ok.kind ok.names (h s M _ F X O fun v m₁ N₁ h₁ t₁ q F₁ X₁ O₁ => ?_)
  obtain ⟨l, vs, n, rfl, hvs, J, J0, Jm, turn, fin⟩ := q
  refine wpAny_pyIter_list (ofNews X₁ (Jm _ _ _ J0)) ?_
  have ltM : ∀ p ∈ M, p.1 < h₁.objs.size := fun p hp => Heap.lt_size (X₁ p (List.mem_append_right _ hp)).1
  have ltN : ∀ p ∈ N₁, p.1 < h₁.objs.size := fun p hp => Heap.lt_size (X₁ p (List.mem_append_left _ hp)).1
  have X₂ := news_in (o := { cls := .type "list_iterator", data := .fields #[.ref l, .int 0 0] }) F₁ X₁ rfl
  have F₂ := F₁.push ({ cls := .type "list_iterator", data := .fields #[.ref l, .int 0 0] } : Obj)
  have O₂ : Off N₁ ((h₁.objs.size, ({ cls := .type "list_iterator", data := .fields #[.ref l, .int 0 0] } : Obj)) :: M) := off_in O₁ ltN
  have z₂ : (h₁.push { cls := .type "list_iterator", data := .fields #[.ref l, .int 0 0] }).objs.size = h₁.objs.size + 1 := Heap.size_push ..
  have g₂ : (h₁.push { cls := .type "list_iterator", data := .fields #[.ref l, .int 0 0] }).IsListIter h₁.objs.size l 0 := ⟨_, Heap.get?_push_size _ rfl, rfl, rfl⟩
  generalize ({ cls := .type "list_iterator", data := .fields #[.ref l, .int 0 0] } : Obj) = io at X₂ F₂ O₂ z₂ g₂ ⊢
  generalize hh₂ : h₁.push io = h₂ at X₂ F₂ z₂ g₂ ⊢
  refine wpAny_newObj_type ?_
  have X₃ := news_in (o := lst [] 0) F₂ X₂ rfl
  have F₃ := F₂.push (lst [] 0)
  have O₃ : Off N₁ ((h₂.objs.size, lst [] 0) :: (h₁.objs.size, io) :: M) := off_in O₂ fun p hp => by rw [z₂]; exact Nat.lt_succ_of_lt (ltN p hp)
  have z₃ : (h₂.push (lst [] 0)).objs.size = h₁.objs.size + 2 := by rw [Heap.size_push, z₂]
  have g₃ : (h₂.push (lst [] 0)).IsListIter h₁.objs.size l 0 := let ⟨o, a, b⟩ := g₂; ⟨o, Heap.get?_push_of_some _ a, b⟩
  generalize hh₃ : h₂.push (lst [] 0) = h₃ at X₃ F₃ z₃ g₃ ⊢
  have hDI : h₂.objs.size ≠ h₁.objs.size := by rw [z₂]; omega
  have hCD : h₃.objs.size ≠ h₂.objs.size := by rw [z₃, z₂]; omega
  have hCI : h₃.objs.size ≠ h₁.objs.size := by rw [z₃]; omega
  refine wpAny_newFunctionEnv ok.cell (by intro y hy; simp at hy) (fun h₄ hns₄ hsb₄ => ?_) ok.kind
  dsimp only [Option.isSome_some] at hns₄ hsb₄ ⊢
  rw [if_pos rfl] at hsb₄
  have X₄' := news_in (o := { cls := .type "dict", data := .dict #[] }) F₃ X₃ rfl
  have F₄' := F₃.push ({ cls := .type "dict", data := .dict #[] } : Obj)
  have hC' := X₄' (h₃.objs.size, _) (List.mem_append_right _ (.head _))
  have hCM : ∀ p ∈ (h₂.objs.size, lst [] 0) :: (h₁.objs.size, io) :: M, p.1 ≠ h₃.objs.size := fun p hp => Nat.ne_of_lt (Heap.lt_size (X₃ p (List.mem_append_right _ hp)).1)
  have hCN : ∀ p ∈ N₁, p.1 ≠ h₃.objs.size := fun p hp => Nat.ne_of_lt (Heap.lt_size (X₃ p (List.mem_append_left _ hp)).1)
  obtain ⟨o₄, es₄, ep₄, ho₄, hd₄, hk₄, hm₄⟩ := id hns₄
  have X₄ := news_put X₄' hCN hCM hsb₄ ho₄
  have F₄ : Fr c.h₀ c.L h₄ m₁ := F₄'.change hsb₄ hC'.2.1 hC'.2.2
  have O₄ : Off N₁ ((h₃.objs.size, o₄) :: (h₂.objs.size, lst [] 0) :: (h₁.objs.size, io) :: M) := fun p hp q hq => by
    rcases List.mem_cons.mp hq with rfl | hq
    · exact hCN p hp
    · exact O₃ p hp q hq
  have hIM : ∀ p ∈ M, p.1 ≠ h₁.objs.size := fun p hp => Nat.ne_of_lt (ltM p hp)
  have hDM : ∀ io' : Obj, ∀ p ∈ (h₁.objs.size, io') :: M, p.1 ≠ h₂.objs.size := fun io' p hp => by
    rcases List.mem_cons.mp hp with rfl | hp
    · exact hDI.symm
    · rw [z₂]; exact Nat.ne_of_lt (Nat.lt_succ_of_lt (ltM p hp))
  have g₄ : h₄.IsListIter h₁.objs.size l 0 := let ⟨o, a, b⟩ := g₃; ⟨o, (hsb₄.2 _ hCI.symm).trans (Heap.get?_push_of_some _ a), b⟩
  have loop : codeAny (model P0 w) (c.A f) (.compLoop (.ListComp elt [⟨.Name x px, iter, ifs, 0⟩] scope pos) 0 (.ref h₁.objs.size) (.ref h₂.objs.size) (compEnvC scope cl h₃.objs.size env))
      (compPost (model P0 w) (c.A f) (fun _ _ => False) none R (.ref h₂.objs.size) h₃.objs.size) { s with heap := h₄, toks := t₁ + ([] : List (Str × Value)).length } := by
    refine codeAny_compLoop_tests (fun k s' => ∃ i ys N h' tk io' co yn mC, s' = { s with heap := h', toks := tk } ∧ i ≤ vs.length ∧ ys.length ≤ i ∧ k = vs.length + 1 - i ∧ J i ys N ∧ Fr c.h₀ c.L h' m₁ ∧
        News c.h₀ c.L h' (N ++ (h₃.objs.size, co) :: (h₂.objs.size, lst ys yn) :: (h₁.objs.size, io') :: M) ∧ Off N ((h₃.objs.size, co) :: (h₂.objs.size, lst ys yn) :: (h₁.objs.size, io') :: M) ∧ h'.Ns h₃.objs.size mC ∧ h'.IsListIter h₁.objs.size l i)
      ?_ (vs.length + 1) ⟨0, [], N₁, h₄, _, io, o₄, 0, _, rfl, Nat.zero_le _, Nat.le_refl _, rfl, J0, F₄, X₄, O₄, hns₄, g₄⟩ (fun _ => rfl)
    rintro k s' ⟨i, ys, N, h', tk, io', co, yn, mC, rfl, hi, hys, rfl, hJ, F', X', O', hns', hit⟩
    have hNC : ∀ p ∈ N, p.1 ≠ h₃.objs.size := fun p hp => O' p hp (h₃.objs.size, co) (.head _)
    have hND : ∀ p ∈ N, p.1 ≠ h₂.objs.size := fun p hp => O' p hp (h₂.objs.size, lst ys yn) (.tail _ (.head _))
    have hNI : ∀ p ∈ N, p.1 ≠ h₁.objs.size := fun p hp => O' p hp (h₁.objs.size, io') (.tail _ (.tail _ (.head _)))
    have hI := X' (h₁.objs.size, io') (List.mem_append_right _ (.tail _ (.tail _ (.head _))))
    have hC := X' (h₃.objs.size, co) (List.mem_append_right _ (.head _))
    by_cases hlt : i < vs.length
    · refine wpAny_pyNext_list_item hit (ofNews X' (Jm _ _ _ hJ)) (x := vs[i]) (by simp [hlt]) fun h₅ hit₅ hs₅ => ?_
      obtain ⟨io₅, gi₅, _, _⟩ := id hit₅
      have F₅ : Fr c.h₀ c.L h₅ m₁ := F'.change hs₅ hI.2.1 hI.2.2
      have X₅ : News c.h₀ c.L h₅ (N ++ (h₃.objs.size, co) :: (h₂.objs.size, lst ys yn) :: (h₁.objs.size, io₅) :: M) := by
        have a : News c.h₀ c.L h' ((N ++ [(h₃.objs.size, co), (h₂.objs.size, lst ys yn)]) ++ (h₁.objs.size, io') :: M) := by simpa using X'
        have := news_put a (fun p hp => by
          rcases List.mem_append.mp hp with hp | hp
          · exact hNI p hp
          · rcases List.mem_cons.mp hp with rfl | hp
            · exact hCI
            · rcases List.mem_cons.mp hp with rfl | hp
              · exact hDI
              · cases hp) hIM hs₅ gi₅
        simpa using this
      have hns₅ : h₅.Ns h₃.objs.size mC := hns'.sameBut hs₅ hCI
      refine wpAny_assign_Name (wpAny_storeName_local (env := compEnvC scope cl h₃.objs.size env) (lookup_relabel_local ok.x) hns₅ (fun h₆ hns₆ hs₆ => ?_) (by simp [compEnvC, relabel, ok.kind]))
      obtain ⟨co₆, es₆, ep₆, gc₆, hd₆, hk₆, hm₆⟩ := id hns₆
      have F₆ : Fr c.h₀ c.L h₆ m₁ := F₅.change hs₆ hC.2.1 hC.2.2
      have X₆ : News c.h₀ c.L h₆ ((N ++ [(h₃.objs.size, co₆)]) ++ (h₂.objs.size, lst ys yn) :: (h₁.objs.size, io₅) :: M) := by
        have := news_put X₅ hNC (fun p hp => by
          rcases List.mem_cons.mp hp with rfl | hp
          · exact hCD.symm
          · rcases List.mem_cons.mp hp with rfl | hp
            · exact hCI.symm
            · exact hCM p (.tail _ (.tail _ hp))) hs₆ gc₆
        simpa using this
      have O₆ : Off (N ++ [(h₃.objs.size, co₆)]) ((h₂.objs.size, lst ys yn) :: (h₁.objs.size, io₅) :: M) := fun p hp q hq => by
        rcases List.mem_append.mp hp with hp | hp
        · rcases List.mem_cons.mp hq with rfl | hq
          · exact hND p hp
          · rcases List.mem_cons.mp hq with rfl | hq
            · exact hNI p hp
            · exact O' p hp q (.tail _ (.tail _ (.tail _ hq)))
        · rcases List.mem_cons.mp hp with rfl | hp
          · rcases List.mem_cons.mp hq with rfl | hq
            · exact hCD
            · rcases List.mem_cons.mp hq with rfl | hq
              · exact hCI
              · exact (hCM q (.tail _ (.tail _ hq))).symm
          · cases hp
      have onC : Off N [(h₃.objs.size, co₆)] := fun p hp q hq => by
        rcases List.mem_cons.mp hq with rfl | hq
        · exact hNC p hp
        · cases hq
      have hM3 : ∀ p ∈ M, p.1 ≠ h₃.objs.size := fun p hp => hCM p (.tail _ (.tail _ hp))
      refine (turn i vs[i] ys N h₃.objs.size co₆ (by simp [hlt]) hJ ⟨es₆, ep₆, _, hd₆, hk₆, hm₆, by simp⟩ onC).at F₆ X₆ O₆ fun b m₇ N₇ h₇ t₇ q F₇ X₇ O₇ => ?_
      obtain ⟨rfl, N₇, rfl, on₇, q⟩ := q
      have iter : ∀ (h : Heap) (N : Led) (ys' : List Value) (yn' : Nat), News c.h₀ c.L h ((N ++ [(h₃.objs.size, co₆)]) ++ (h₂.objs.size, lst ys' yn') :: (h₁.objs.size, io₅) :: M) → h.IsListIter h₁.objs.size l (i + 1) ∧ h.Ns h₃.objs.size (fun y => if y = x then some vs[i] else mC y) := fun h N ys' yn' X => by
        constructor
        · obtain ⟨o', a, b⟩ := hit₅
          rw [gi₅] at a; cases a
          exact ⟨io₅, (X (h₁.objs.size, io₅) (List.mem_append_right _ (.tail _ (.head _)))).1, b⟩
        · exact ⟨co₆, es₆, ep₆, (X (h₃.objs.size, co₆) (List.mem_append_left _ (List.mem_append_right _ (.head _)))).1, hd₆, hk₆, hm₆⟩
      have offs : ∀ (N : Led) (ys' : List Value) (yn' : Nat), Off (N ++ [(h₃.objs.size, co₆)]) ((h₂.objs.size, lst ys' yn') :: (h₁.objs.size, io₅) :: M) → (∀ p ∈ N, p.1 ≠ h₃.objs.size) → Off N ((h₃.objs.size, co₆) :: (h₂.objs.size, lst ys' yn') :: (h₁.objs.size, io₅) :: M) := fun N ys' yn' O k p hp q hq => by
        rcases List.mem_cons.mp hq with rfl | hq
        · exact k p hp
        · exact O p (List.mem_append_left _ hp) q hq
      cases b with
      | false =>
        simp only [Bool.false_eq_true, if_false] at q ⊢
        obtain ⟨it, ns⟩ := iter _ _ _ _ X₇
        exact ⟨vs.length + 1 - (i + 1), by omega, i + 1, ys, N₇, h₇, t₇, io₅, co₆, yn, _, rfl, hlt, by omega, rfl, q, F₇, by simpa using X₇, offs _ _ _ O₇ fun p hp => on₇ p hp _ (.head _), ns, it⟩
      | true =>
        simp only [if_true] at q ⊢
        refine q.at F₇ X₇ O₇ fun y m₈ N₈ h₈ t₈ q F₈ X₈ O₈ => ?_
        obtain ⟨rfl, N₈, rfl, on₈, q⟩ := q
        have hD := X₈ (h₂.objs.size, lst ys yn) (List.mem_append_right _ (.head _))
        refine append_at (its := ys.toArray) (n := yn) hD.1 (fun h₉ hs₉ hg₉ => ?_) (by rw [sizeLine_eq]; simp; omega)
        have F₉ : Fr c.h₀ c.L h₉ m₈ := F₈.change hs₉ hD.2.1 hD.2.2
        have X₉ : News c.h₀ c.L h₉ ((N₈ ++ [(h₃.objs.size, co₆)]) ++ (h₂.objs.size, lst (ys ++ [y]) (yn + 1)) :: (h₁.objs.size, io₅) :: M) := by
          refine news_put X₈ (fun p hp => O₈ p hp (h₂.objs.size, lst ys yn) (.head _)) (hDM _) hs₉ ?_
          rw [hg₉]; simp
        have O₉ := off_swap (io' := lst (ys ++ [y]) (yn + 1)) O₈
        obtain ⟨it, ns⟩ := iter _ _ _ _ X₉
        exact ⟨vs.length + 1 - (i + 1), by omega, i + 1, ys ++ [y], N₈, h₉, t₈, io₅, co₆, yn + 1, _, rfl, hlt, by simp; omega, rfl, q, F₉, by simpa using X₉, offs _ _ _ O₉ fun p hp => on₈ p hp _ (.head _), ns, it⟩
    · have : i = vs.length := by omega
      subst this
      refine wpAny_pyNext_list_end rfl hit (ofNews X' (Jm _ _ _ hJ)) (by simp) fun h₅ hs₅ => ?_
      refine ⟨mC, hns'.extBut hs₅ hCI, fun h₆ hs₆ => ?_⟩
      have F₅ : Fr c.h₀ c.L h₅ m₁ := fr_out F' hI.2.2 hI.2.1 hs₅
      have F₆ : Fr c.h₀ c.L h₆ m₁ := F₅.change hs₆ hC.2.1 hC.2.2
      have keep : ∀ p ∈ N ++ (h₃.objs.size, co) :: (h₂.objs.size, lst ys yn) :: (h₁.objs.size, io') :: M, p.1 ≠ h₁.objs.size → p.1 ≠ h₃.objs.size → h₆.get? p.1 = some p.2 ∧ p.1 ≠ c.L ∧ c.h₀.get? p.1 = none := fun p hp a b =>
        ⟨(hs₆.2 _ b).trans (hs₅ _ _ a (X' p hp).1), (X' p hp).2⟩
      have X₆ : News c.h₀ c.L h₆ (((h₂.objs.size, lst ys yn) :: N) ++ M) := fun p hp => by
        rcases List.mem_append.mp hp with hp | hp
        · rcases List.mem_cons.mp hp with rfl | hp
          · exact keep _ (List.mem_append_right _ (.tail _ (.head _))) hDI hCD.symm
          · exact keep p (List.mem_append_left _ hp) (hNI p hp) (hNC p hp)
        · exact keep p (List.mem_append_right _ (.tail _ (.tail _ (.tail _ hp)))) (hIM p hp) (hCM p (.tail _ (.tail _ hp)))
      refine hR _ _ _ _ _ (fin h₂.objs.size ys yn N hJ hND hys) F₆ X₆ fun p hp q hq => ?_
      rcases List.mem_cons.mp hp with rfl | hp
      · exact (hDM io' q (.tail _ hq)).symm
      · exact O' p hp q (.tail _ (.tail _ (.tail _ hq)))
  exact codeAny_compStart_list loop (wpAny_pyIter_listiter g₄ loop)

theorem sat_ifs0 {Q : Bool → Loc → Led → Prop} (h : Q true m N) : Sat w c f (forIn ([] : List Expr) true fun t r => if r = true then do let ok ← isTrue t env (eval t env); pure (ForInStep.yield ok) else pure (ForInStep.yield r)) m N Q := sat_pure h
theorem sat_ifs1 {t : Expr} {Q : Bool → Loc → Led → Prop} (h : Sat w c f (isTrue t env (eval t env)) m N Q) : Sat w c f (forIn [t] true fun t r => if r = true then do let ok ← isTrue t env (eval t env); pure (ForInStep.yield ok) else pure (ForInStep.yield r)) m N Q := by
  rw [List.forIn_cons]
  refine sat_bind (sat_bind ?_)
  exact sat_mono h fun b m' N' q => sat_pure (sat_pure q)

-- names inside a block
theorem sat_cv {C : Addr} {o : Obj} {x : Str} {v : Value} {pos : Pos} {sc : Scope} {cl : List (Str × Addr)} {Q : Value → Loc → Led → Prop} (ok : CompOk sc x) (hm : (C, o) ∈ N) (B : Bnd o x v) (h : Q v m N) (hd : (x == ("__debug__" : Str)) = false := by decide) :
    Sat w c f (eval (.Name x pos) (compEnvC sc cl C env)) m N Q := fun _ M _ F X O hR =>
  let ⟨mC, ns, hv⟩ := B.ns (X _ (List.mem_append_left _ hm)).1
  wpAny_Name (wpAny_loadName_local (env := compEnvC sc cl C env) (by simp [compEnvC, relabel, ok.kind]) (lookup_relabel_local ok.x) ns hv (hR _ _ _ _ _ h F X O)) hd
theorem sat_cc {C a : Addr} {o : Obj} {x : Str} {v : Value} {pos : Pos} {sc : Scope} {cl : List (Str × Addr)} {Q : Value → Loc → Led → Prop} (hk : sc.kind = .function) (hx : (compEnvC sc cl C env).kindOf x = some .cell) (hc : cl.lookup x = some a) (hm : (a, o) ∈ N) (hv : o.data = .cell (some v)) (h : Q v m N) (hd : (x == ("__debug__" : Str)) = false := by decide) :
    Sat w c f (eval (.Name x pos) (compEnvC sc cl C env)) m N Q := fun _ M _ F X O hR =>
  lcf_cell X hc (List.mem_append_left _ hm) hv (hR _ _ _ _ _ h F X O) (by simp [compEnvC, relabel, hk]) hx hd
theorem sat_cf {C a : Addr} {o : Obj} {x : Str} {v : Value} {pos : Pos} {sc : Scope} {cl : List (Str × Addr)} {Q : Value → Loc → Led → Prop} (hk : sc.kind = .function) (hx : (compEnvC sc cl C env).kindOf x = some .free) (hc : cl.lookup x = some a) (hm : (a, o) ∈ N) (hv : o.data = .cell (some v)) (h : Q v m N) (hd : (x == ("__debug__" : Str)) = false := by decide) (hn : (x == ("__classdict__" : Str)) = false := by decide) :
    Sat w c f (eval (.Name x pos) (compEnvC sc cl C env)) m N Q := fun _ M _ F X O hR =>
  lcf_free X hc (List.mem_append_left _ hm) hv (hR _ _ _ _ _ h F X O) (by simp [compEnvC, relabel, hk]) hx hd hn
theorem sat_cgl {x : Str} {v : Value} {pos : Pos} {Q : Value → Loc → Led → Prop} (hc : c.Ok w) (e : nsIn (KF w.params) mainGlobals x = some (some v)) (hg : env.globals = mainGlobals) (hk : env.scope.kind = .function) (hx : env.kindOf x = some .globalImplicit) (h : Q v m N) (hd : (x == ("__debug__" : Str)) = false := by decide) :
    Sat w c f (eval (.Name x pos) env) m N Q := fun _ M _ F X O hR =>
  let ⟨_, _, T⟩ := hc.T
  nameG_K F hc.X T e (hR _ _ _ _ _ h F X O) hg hk hx hd
theorem sat_cbi {x : Str} {v : Value} {pos : Pos} {Q : Value → Loc → Led → Prop} (hc : c.Ok w) (e : nsIn (KF w.params) mainGlobals x = some none ∧ bootBuiltins x = some v ∧ x ≠ "__name__") (hg : env.globals = mainGlobals) (hb : env.builtins = builtinsNs) (hk : env.scope.kind = .function) (hx : env.kindOf x = some .globalImplicit) (h : Q v m N) (hd : (x == ("__debug__" : Str)) = false := by decide) :
    Sat w c f (eval (.Name x pos) env) m N Q := fun _ M _ F X O hR =>
  let ⟨_, _, T⟩ := hc.T
  Name_function_global hk hx (loadGlobal_builtin (env := env) (by rw [hg]; exact T.g.keeps F.keep) (mg_none_of hc.X T.g e.1) (by rw [hb]; exact T.b.keeps F.keep) ((T.builtins x e.2.2).trans e.2.1) (hR _ _ _ _ _ h F X O)) hd

-- cells
theorem sat_ldC {ks gs : List Str} {a : Addr} {o : Obj} {x : Str} {v : Value} {pos : Pos} {Q : Value → Loc → Led → Prop} (G : FnG f ks gs) (hx : f.cs.names.lookup x = some .cell) (hc : c.cl.lookup x = some a) (hm : (a, o) ∈ N) (hv : o.data = .cell (some v)) (h : Q v m N) (hd : (x == ("__debug__" : Str)) = false := by decide) :
    Sat w c f (eval (.Name x pos) (c.env f)) m N Q := fun _ M _ F X O hR => nameX_C X hc (List.mem_append_left _ hm) hv (hR _ _ _ _ _ h F X O) G.kind hx hd
theorem updF_last {a : Addr} {o : Obj} {N M : Led} (O : Off N [(a, o)]) (k : ∀ p ∈ M, p.1 ≠ a) : UpdF a o (N ++ (a, o) :: M) (fun o' => N ++ (a, o') :: M) := by
  induction N with
  | nil => exact .head k
  | cons p N ih => exact .tail (O p (.head _) (a, o) (.head _)) (ih fun q hq => O q (.tail _ hq))
theorem sat_stC {ks gs : List Str} {a : Addr} {o : Obj} {x : Str} {v : Value} {v₀ : Option Value} {Q : Unit → Loc → Led → Prop} (G : FnG f ks gs) (hx : f.cs.names.lookup x = some .cell) (hc : c.cl.lookup x = some a) (O : Off N [(a, o)]) (hv : o.data = .cell v₀) (h : ∀ o', o'.data = .cell (some v) → Q () m (N ++ [(a, o')])) :
    Sat w c f (storeName (c.env f) x v) m (N ++ [(a, o)]) Q := fun _ M _ F X Off' hR => by
  have k : ∀ p ∈ M, p.1 ≠ a := fun p hp => (Off' (a, o) (List.mem_append_right _ (.head _)) p hp).symm
  refine storeX_C F (by simpa using X) hc (updF_last O k) hv (fun h' o' F' X' hd => hR _ _ _ _ _ (h o' hd) F' (by simpa using X') fun p hp q hq => ?_) G.kind hx
  rcases List.mem_append.mp hp with hp | hp
  · exact Off' p (List.mem_append_left _ hp) q hq
  · rcases List.mem_cons.mp hp with rfl | hp
    · exact Off' (a, o) (List.mem_append_right _ (.head _)) q hq
    · cases hp
end
theorem bindL_loc {kd : Str → Option NameKind} : ∀ (bs : List (Str × Value)) (m : Loc), (∀ x ∈ bs, kd x.1 = some .local) → bindL kd bs m = fun y => (bs.reverse.lookup y).or (m y)
  | [], m, _ => by funext y; simp [bindL]
  | (n, v) :: bs, m, h => by
    rw [bindL, if_pos (h _ (.head _)), bindL_loc bs _ fun x hx => h x (.tail _ hx)]
    funext y
    simp only [List.reverse_cons, List.lookup_append]
    cases e : bs.reverse.lookup y with
    | some u => simp
    | none =>
      simp only [Option.none_or]
      by_cases hy : y = n
      · subst hy; simp
      · have : (y == n) = false := by simpa using hy
        simp [List.lookup, this, hy]
theorem bindC_loc {kd : Str → Option NameKind} : ∀ (bs : List (Str × Value)) (m : Loc), (∀ x ∈ bs, kd x.1 = some .local) → bindC kd bs m = m
  | [], m, _ => rfl
  | (n, v) :: bs, m, h => by rw [bindC, if_pos (h _ (.head _)), bindC_loc bs _ fun x hx => h x (.tail _ hx)]
section
variable {α β : Type} {w : World} {c : Fx} {f : Fn} {m : Loc} {N : Led} {env : Env}
theorem sat_funC {f' : Fn} {ks gs' : List Str} {xc : Str} {o₀ : Option Value} {nm : Str} {params : Arguments} {body : List Stmt} {dV kV doc pm ct : Value} {an : Option Addr} {vals : List Value} {binds : List (Str × Value)} {vs : List (Option Value)} {Q : Value → Loc → Led → Prop}
    (hc : c.Ok w) (hf : f.cs.kind = .function) (G : FnG f' ks gs') (hA : FnAt w f' nm params body dV kV doc pm ct an) (hroom : c.dp < recursionLimit)
    (hcf : ∀ n, cellsFrom n f'.cs.names [] = [(xc, n)])
    (hbind : ∀ s : Shared, (KF w.params).In s.heap → BindsTo s (fnOf nm f'.cn params body f'.cs dV kV doc pm an f'.cd ct) ⟨vals, []⟩ binds)
    (hkind : ∀ x ∈ binds, f'.cs.names.lookup x.1 = some .local ∨ (f'.cs.names.lookup x.1 = some .cell ∧ x.1 = xc))
    (hL : bindL (fun y => f'.cs.names.lookup y) binds (fun _ => none) = lk ks vs) (hC : bindC (fun y => f'.cs.names.lookup y) binds (fun _ => none) xc = o₀)
    (h : ∀ (c' : Fx) a o, c'.Ok w → c'.dp = c.dp + 1 → c'.un = c.un + 3 → c'.cl = [(xc, a)] → o.data = .cell o₀ → (∀ p ∈ N, p.1 < a) → Sat w c' f' (execs body (c'.env f')) (lk ks vs) (N ++ [(a, o)]) fun fl _ N' => Q (match fl with | .ret v => v | _ => .none) m N') :
    Sat w c f (call (.ref f'.a) vals) m N Q := fun s M R F N' O hR => by
  obtain ⟨oc, od, osl, hlook⟩ := hA.look
  obtain ⟨mg, mb, T⟩ := hc.T
  refine wpAny_call (callX_cells hc.B F N' T.nolimit (env := c.env f) (outer := c.outer) rfl rfl hf ((hc.X.keeps F.keep) _ _ hlook) rfl (codeRec_of (hc.X.keeps F.keep) hA.code) hroom (hbind s (hc.X.keeps F.keep)) (fun n x hx => ?_) ?_ (fun g L' h₁ tk cells FG F' X' Y B' st lt => ?_) G.co G.gen G.kind)
  · rcases hkind x hx with q | ⟨q, rfl⟩
    · exact .inl q
    · refine .inr ⟨q, ?_⟩
      rw [hcf]; simp
  · rw [hcf]; simp
  · rw [hcf] at Y
    obtain ⟨o, rfl, ho⟩ := Y.one
    have e1 : bindL (envOfC f'.cn f'.cs L' f'.a f'.cd).kindOf binds (fun _ => none) = lk ks vs := hL
    rw [e1] at F'
    have e2 : o.data = .cell o₀ := by rw [ho]; exact congrArg Data.cell hC
    have gt : ∀ p ∈ N ++ M, p.1 < L' + 1 := fun p hp => Nat.lt_succ_of_lt (lt p hp)
    have X₂ : News g L' h₁ ((N ++ [(L' + 1, o)]) ++ M) := fun p hp => X' p (by
      rcases List.mem_append.mp hp with hp | hp
      · rcases List.mem_append.mp hp with hp | hp
        · exact List.mem_append_right _ (List.mem_append_left _ hp)
        · exact List.mem_append_left _ hp
      · exact List.mem_append_right _ (List.mem_append_right _ hp))
    have O₂ : Off (N ++ [(L' + 1, o)]) M := fun p hp q hq => by
      rcases List.mem_append.mp hp with hp | hp
      · exact O p hp q hq
      · rcases List.mem_cons.mp hp with rfl | hp
        · exact Nat.ne_of_gt (gt q (List.mem_append_right _ hq))
        · cases hp
    have e3 : envOfC f'.cn f'.cs L' f'.a f'.cd = (⟨c.dp + 1, c.un + 3, c.gd, c.env f :: c.outer, c.A f, c.base, g, L', [(xc, L' + 1)]⟩ : Fx).env f' := by
      show envX f'.cn f'.cs L' f'.a f'.cd (cellsFrom (L' + 1) f'.cs.names []) = envX f'.cn f'.cs L' f'.a f'.cd [(xc, L' + 1)]
      rw [hcf]
    rw [e3]
    refine wpAny_mono (h ⟨c.dp + 1, c.un + 3, c.gd, c.env f :: c.outer, c.A f, c.base, g, L', [(xc, L' + 1)]⟩ (L' + 1) o ⟨B', hc.X.keeps st, ⟨mg, mb, T.keeps st⟩⟩ rfl rfl rfl e2 (fun p hp => gt p (List.mem_append_left _ hp)) _ M _ F' X₂ O₂ fun fl m' N₃ h' tk' q F₃ N₃' O₃ => leaveK_ F₃ N₃' fun Fm Nm => hR _ _ _ _ _ q Fm Nm O₃) (fun _ _ x => x) fun _ _ x => x.elim
/-- the cell is no parameter -/
theorem sat_funC0 {f' : Fn} {ks gs' : List Str} {xc : Str} {nm : Str} {params : Arguments} {body : List Stmt} {dV kV doc pm ct : Value} {an : Option Addr} {vals bvals : List Value} {n : Nat} {Q : Value → Loc → Led → Prop}
    (hc : c.Ok w) (hf : f.cs.kind = .function) (G : FnG f' ks gs') (hA : FnAt w f' nm params body dV kV doc pm ct an) (hroom : c.dp < recursionLimit)
    (hcf : ∀ n, cellsFrom n f'.cs.names [] = [(xc, n)])
    (hbind : ∀ s : Shared, (KF w.params).In s.heap → BindsTo s (fnOf nm f'.cn params body f'.cs dV kV doc pm an f'.cd ct) ⟨vals, []⟩ ((ks.take n).zip bvals)) (hl : bvals.length = n) (hn : n ≤ ks.length)
    (h : ∀ (c' : Fx) a o, c'.Ok w → c'.dp = c.dp + 1 → c'.un = c.un + 3 → c'.cl = [(xc, a)] → o.data = .cell none → (∀ p ∈ N, p.1 < a) → Sat w c' f' (execs body (c'.env f')) (lk ks (bvals.map some ++ List.replicate (ks.length - n) none)) (N ++ [(a, o)]) fun fl _ N' => Q (match fl with | .ret v => v | _ => .none) m N') :
    Sat w c f (call (.ref f'.a) vals) m N Q := by
  have loc : ∀ x ∈ (ks.take n).zip bvals, f'.cs.names.lookup x.1 = some .local := fun y hy => (G.loc y.1 (List.mem_of_mem_take (List.of_mem_zip hy).1)).1
  refine sat_funC hc hf G hA hroom hcf hbind (fun x hx => .inl (loc x hx)) ?_ ?_ h
  · rw [bindL_loc _ _ loc]
    simp only [Option.or_none]
    exact lk_binds n ks bvals G.nd hl hn
  · rw [bindC_loc _ _ loc]
end

theorem call_taken {w : World} {c : Fx} {f : Fn} {m : Loc} {N : Led} {v_self v_left v_right : Value} {Q : Value → Loc → Led → Prop} (hc : c.Ok w) (hf : f.cs.kind = .function) (hroom : c.dp < recursionLimit)
    (h : ∀ (c' : Fx) a o, c'.Ok w → c'.dp = c.dp + 1 → c'.un = c.un + 3 → c'.cl = [(s "away", a)] → o.data = .cell none → (∀ p ∈ N, p.1 < a) →
      Sat w c' fn_taken (execs bd_taken (c'.env fn_taken)) (lk [s "self", s "left", s "right", s "row"] [some v_self, some v_left, some v_right, none]) (N ++ [(a, o)]) fun fl _ N' => Q (match fl with | .ret v => v | _ => .none) m N') :
    Sat w c f (call (.ref 355) [v_self, v_left, v_right]) m N Q :=
  sat_funC0 (f' := fn_taken) (xc := s "away") (bvals := [v_self, v_left, v_right]) (n := 3) hc hf G_taken (A_taken w) hroom (fun n => by kernel_rfl) (fun s hs => BindsTo.of_eq (by kernel_rfl)) rfl (by decide) h
theorem cell_taken : fn_taken.cs.names.lookup (s "away") = some .cell := by kernel_rfl

theorem call_expand {w : World} {c : Fx} {f : Fn} {m : Loc} {N : Led} {v_formula : Value} {Q : Value → Loc → Led → Prop} (hc : c.Ok w) (hf : f.cs.kind = .function) (hroom : c.dp < recursionLimit)
    (h : ∀ (c' : Fx) a o, c'.Ok w → c'.dp = c.dp + 1 → c'.un = c.un + 3 → c'.cl = [(s "numbers", a)] → o.data = .cell none → (∀ p ∈ N, p.1 < a) →
      Sat w c' fn_expand (execs bd_expand (c'.env fn_expand)) (lk [s "formula", s "names", s "response", s "right", s "reader", s "term", s "row", s "away", s "kept", s "offsets", s "place", s "e", s "factors"] [some v_formula, some (.none), none, none, none, none, none, none, none, none, none, none, none]) (N ++ [(a, o)]) fun fl _ N' => Q (match fl with | .ret v => v | _ => .none) m N') :
    Sat w c f (call (.ref 389) [v_formula]) m N Q :=
  sat_funC0 (f' := fn_expand) (xc := s "numbers") (bvals := [v_formula, .none]) (n := 2) hc hf G_expand (A_expand w) hroom (fun n => by kernel_rfl) (fun s hs => binds_K hs rfl (show (KF w.params).lookup 384 = some (o384 w.params) by kernel_rfl) rfl rfl (by kernel_rfl)) rfl (by decide) h
theorem cell_expand : fn_expand.cs.names.lookup (s "numbers") = some .cell := by kernel_rfl

theorem call_row {w : World} {c : Fx} {f : Fn} {m : Loc} {N : Led} {v_side : Value} {Q : Value → Loc → Led → Prop} (hc : c.Ok w) (hf : f.cs.kind = .function) (hroom : c.dp < recursionLimit)
    (h : ∀ (c' : Fx) a o, c'.Ok w → c'.dp = c.dp + 1 → c'.un = c.un + 3 → c'.cl = [(s "told", a)] → o.data = .cell none → (∀ p ∈ N, p.1 < a) →
      Sat w c' fn_row (execs bd_row (c'.env fn_row)) (lk [s "side"] [some v_side]) (N ++ [(a, o)]) fun fl _ N' => Q (match fl with | .ret v => v | _ => .none) m N') :
    Sat w c f (call (.ref 434) [v_side]) m N Q :=
  sat_funC0 (f' := fn_row) (xc := s "told") (bvals := [v_side]) (n := 1) hc hf G_row (A_row w) hroom (fun n => by kernel_rfl) (fun s hs => BindsTo.of_eq (by kernel_rfl)) rfl (by decide) h
theorem cell_row : fn_row.cs.names.lookup (s "told") = some .cell := by kernel_rfl

theorem call_right_side {w : World} {c : Fx} {f : Fn} {m : Loc} {N : Led} {v_terms : Value} {Q : Value → Loc → Led → Prop} (hc : c.Ok w) (hf : f.cs.kind = .function) (hroom : c.dp < recursionLimit)
    (h : ∀ (c' : Fx) a o, c'.Ok w → c'.dp = c.dp + 1 → c'.un = c.un + 3 → c'.cl = [(s "terms", a)] → o.data = .cell (some v_terms) → (∀ p ∈ N, p.1 < a) →
      Sat w c' fn_right_side (execs bd_right_side (c'.env fn_right_side)) (lk [s "e", s "part"] [none, none]) (N ++ [(a, o)]) fun fl _ N' => Q (match fl with | .ret v => v | _ => .none) m N') :
    Sat w c f (call (.ref 401) [v_terms]) m N Q := by
  have cell : fn_right_side.cs.names.lookup (s "terms") = some .cell := by kernel_rfl
  have nl : (fn_right_side.cs.names.lookup (s "terms") = some .local) = False := by rw [cell]; simp
  refine sat_funC (f' := fn_right_side) (xc := s "terms") (binds := [(s "terms", v_terms)]) hc hf G_right_side (A_right_side w) hroom (fun n => by kernel_rfl) (fun s hs => BindsTo.of_eq (by kernel_rfl)) (fun x hx => ?_) ?_ ?_ h
  · rcases List.mem_cons.mp hx with rfl | hx
    · exact .inr ⟨cell, rfl⟩
    · cases hx
  · simp only [bindL]
    rw [if_neg (by rw [nl]; exact id)]
    funext y
    simp only [lk]
    split <;> (try split) <;> rfl
  · simp only [bindC]
    rw [if_neg (by rw [nl]; exact id)]
    simp
theorem cell_right_side : fn_right_side.cs.names.lookup (s "terms") = some .cell := by kernel_rfl

theorem isi99 (P : Params) : isIn (KF P) (.ref 99) 99 = true := by kernel_rfl
theorem isi121 (P : Params) : isIn (KF P) (.ref 121) 121 = true := by kernel_rfl
theorem isn99_121 (P : Params) : notOk (KF P) 99 121 = true := by kernel_rfl
theorem isn78_121 (P : Params) : notOk (KF P) 78 121 = true := by kernel_rfl
theorem isn99_78 (P : Params) : notOk (KF P) 99 78 = true := by kernel_rfl
theorem isn121_99 (P : Params) : notOk (KF P) 121 99 = true := by kernel_rfl
section
variable {w : World} {c : Fx} {f : Fn} {m : Loc} {N : Led}
theorem sat_cB {x : Str} {p0 pos : Pos} {e : Expr} {rest : List Expr} {id : String} {ks gs : List Str} {Q : Value → Loc → Led → Prop} (hc : c.Ok w) (eb : nsIn (KF w.params) mainGlobals x = some none ∧ bootBuiltins x = some (.builtin id) ∧ x ≠ "__name__") (G : FnG f ks gs) (hx : x ∈ gs)
    (h : Sat w c f (spliced (backTo pos (starEach (e :: rest) (c.env f)))) m N fun vs m₂ N₂ => Sat w c f (call (.builtin id) vs) m₂ N₂ Q)
    (hx' : eval ((Expr.Name x p0).Call (e :: rest) [] pos) (c.env f) = (do let fv ← eval (.Name x p0) (c.env f); callWith pos fv [] (backTo pos (starEach (e :: rest) (c.env f))) (backToKw pos (keywordEach [] (c.env f)))))
    (he : starEach (e :: rest) (c.env f) = (false, eval e (c.env f)) :: starEach rest (c.env f)) (hp : (backTo pos (starEach rest (c.env f))).any (·.1) = false) :
    Sat w c f (eval ((Expr.Name x p0).Call (e :: rest) [] pos) (c.env f)) m N Q := sat_callB (sat_bi hc eb G hx ⟨rfl, h⟩) hx' he hp
theorem sat_cT {x : Str} {p0 pos : Pos} {e : Expr} {rest : List Expr} {id : String} {ks gs : List Str} {Q : Value → Loc → Led → Prop} (hc : c.Ok w) (eb : nsIn (KF w.params) mainGlobals x = some none ∧ bootBuiltins x = some (.type id) ∧ x ≠ "__name__") (G : FnG f ks gs) (hx : x ∈ gs)
    (h : Sat w c f (spliced (backTo pos (starEach (e :: rest) (c.env f)))) m N fun vs m₂ N₂ => Sat w c f (call (.type id) vs) m₂ N₂ Q)
    (hx' : eval ((Expr.Name x p0).Call (e :: rest) [] pos) (c.env f) = (do let fv ← eval (.Name x p0) (c.env f); callWith pos fv [] (backTo pos (starEach (e :: rest) (c.env f))) (backToKw pos (keywordEach [] (c.env f)))))
    (he : starEach (e :: rest) (c.env f) = (false, eval e (c.env f)) :: starEach rest (c.env f)) (hp : (backTo pos (starEach rest (c.env f))).any (·.1) = false) :
    Sat w c f (eval ((Expr.Name x p0).Call (e :: rest) [] pos) (c.env f)) m N Q := sat_callT (sat_bi hc eb G hx ⟨rfl, h⟩) hx' he hp
theorem sat_cG {x : Str} {p0 pos : Pos} {e : Expr} {rest : List Expr} {a : Addr} {ks gs : List Str} {Q : Value → Loc → Led → Prop} (hc : c.Ok w) (eb : nsIn (KF w.params) mainGlobals x = some (some (.ref a))) (hk : keepIn (KF w.params) (.ref a) = true) (G : FnG f ks gs) (hx : x ∈ gs)
    (h : Sat w c f (spliced (backTo pos (starEach (e :: rest) (c.env f)))) m N fun vs m₂ N₂ => Sat w c f (call (.ref a) vs) m₂ N₂ Q)
    (hx' : eval ((Expr.Name x p0).Call (e :: rest) [] pos) (c.env f) = (do let fv ← eval (.Name x p0) (c.env f); callWith pos fv [] (backTo pos (starEach (e :: rest) (c.env f))) (backToKw pos (keywordEach [] (c.env f)))))
    (he : starEach (e :: rest) (c.env f) = (false, eval e (c.env f)) :: starEach rest (c.env f)) (hp : (backTo pos (starEach rest (c.env f))).any (·.1) = false) :
    Sat w c f (eval ((Expr.Name x p0).Call (e :: rest) [] pos) (c.env f)) m N Q := sat_call hc (sat_gl hc eb G hx ⟨hk, h⟩) hx' he hp
end
section
variable {α β : Type} {w : World} {c : Fx} {f : Fn} {m : Loc} {N : Led} {env : Env}
/-- for over a list of the ledger -/
theorem sat_forT {x : Str} {px pos : Pos} {iter : Expr} {body : List Stmt} {Q : Flow → Loc → Led → Prop}
    (h : Sat w c f (eval iter env) m N fun v m₁ N₁ => ∃ l vs, v = .ref l ∧ ∃ J : Nat → Loc → Led → Prop, J 0 m₁ N₁ ∧ (∀ i m N, J i m N → (l, tup vs) ∈ N) ∧
      (∀ i u m N, vs[i]? = some u → J i m N → Sat w c f (storeName env x u) m N fun _ m' N' => Sat w c f (execs body env) m' N' fun fl m₂ N₂ => match fl with
        | .next | .cont => J (i + 1) m₂ N₂
        | .brk => Q .next m₂ N₂
        | .ret v => Q (.ret v) m₂ N₂) ∧
      (∀ m N, J vs.length m N → Q .next m N))
    (hs : ∀ x, foldedSetIterable iter env x = pure x := by intro _; rfl) : Sat w c f (exec (.For (.Name x px) iter body [] pos) env) m N Q := by
  intro s M R F X O hR
  refine wpAny_For (h s M _ F X O fun v m₁ N₁ h₁ t₁ q F₁ X₁ O₁ => ?_) hs
  obtain ⟨l, vs, rfl, J, J0, Jm, turn, fin⟩ := q
  refine wpAny_pyIter_tuple (ofNewsT X₁ (Jm _ _ _ J0)) ?_
  have hM : ∀ p ∈ M, p.1 ≠ h₁.objs.size := fun p hp => Nat.ne_of_lt (Heap.lt_size (X₁ p (List.mem_append_right _ hp)).1)
  refine codeAny_forLoop_any (fun k s' => ∃ i m N h' tk io, s' = { s with heap := h', toks := tk } ∧ i ≤ vs.length ∧ k = vs.length + 1 - i ∧ J i m N ∧ Fr c.h₀ c.L h' m ∧ News c.h₀ c.L h' (N ++ (h₁.objs.size, io) :: M) ∧ Off N ((h₁.objs.size, io) :: M) ∧ h'.IsTupleIter h₁.objs.size l i)
    ?_ (vs.length + 1) ⟨0, m₁, N₁, _, t₁, _, rfl, Nat.zero_le _, rfl, J0, F₁.push _, news_in F₁ X₁ rfl, off_in O₁ fun p hp => Heap.lt_size (X₁ p (List.mem_append_left _ hp)).1, ⟨_, Heap.get?_push_size _ rfl, rfl, rfl⟩⟩
  rintro k s' ⟨i, m, N, h', tk, io, rfl, hi, rfl, hJ, F', X', O', hit⟩
  have hN : ∀ p ∈ N, p.1 ≠ h₁.objs.size := fun p hp => O' p hp _ (.head _)
  have hI := X' (h₁.objs.size, io) (List.mem_append_right _ (.head _))
  by_cases hlt : i < vs.length
  · refine wpAny_pyNext_tuple_item hit (ofNewsT X' (Jm _ _ _ hJ)) (x := vs[i]) (by simp [hlt]) fun h₂ hit₂ hs₂ => ?_
    obtain ⟨io₂, g₂, _, _⟩ := id hit₂
    have F₂ : Fr c.h₀ c.L h₂ m := F'.change hs₂ hI.2.1 hI.2.2
    refine wpAny_pure (wpAny_assign_Name ?_)
    refine (turn i vs[i] m N (by simp [hlt]) hJ).at F₂ (news_put X' hN hM hs₂ g₂) (off_swap O') fun _ m₃ N₃ h₃ t₃ q F₃ X₃ O₃ => ?_
    refine q.at F₃ X₃ O₃ fun fl m₄ N₄ h₄ t₄ q₄ F₄ X₄ O₄ => ?_
    have h4 := X₄ (h₁.objs.size, io₂) (List.mem_append_right _ (.head _))
    have fit : h₄.IsTupleIter h₁.objs.size l (i + 1) := by
      obtain ⟨o', a, b⟩ := hit₂
      rw [g₂] at a; cases a
      exact ⟨io₂, h4.1, b⟩
    have out := news_out X₄ (fun p hp => O₄ p hp _ (.head _)) hM (Heap.ExtBut.refl h₁.objs.size h₄)
    have oo : Off N₄ M := fun p hp q hq => O₄ p hp q (.tail _ hq)
    cases fl with
    | next => exact ⟨vs.length + 1 - (i + 1), by omega, i + 1, m₄, N₄, h₄, t₄, io₂, rfl, hlt, rfl, q₄, F₄, X₄, O₄, fit⟩
    | cont => exact ⟨vs.length + 1 - (i + 1), by omega, i + 1, m₄, N₄, h₄, t₄, io₂, rfl, hlt, rfl, q₄, F₄, X₄, O₄, fit⟩
    | brk => exact hR _ _ _ _ _ q₄ F₄ out oo
    | ret v => exact hR _ _ _ _ _ q₄ F₄ out oo
  · have : i = vs.length := by omega
    subst this
    refine wpAny_pyNext_tuple_end rfl hit (ofNewsT X' (Jm _ _ _ hJ)) (by simp) fun h₂ hs₂ => wpAny_execs_nil ?_
    exact hR _ _ _ _ _ (fin _ _ hJ) (fr_out F' hI.2.2 hI.2.1 hs₂) (news_out X' hN hM hs₂) fun p hp q hq => O' p hp q (.tail _ hq)

/-- a list built over a list -/
theorem sat_compT {elt iter : Expr} {x : Str} {px pos : Pos} {ifs : List Expr} {scope : Scope} {cl : List (Str × Addr)} {Q : Value → Loc → Led → Prop}
    (hclos : closureFor scope env = pure cl) (ok : CompOk scope x)
    (h : Sat w c f (eval iter env) m N fun v m₁ N₁ => ∃ l vs, v = .ref l ∧ vs.length ≤ 16384 ∧ ∃ J : Nat → List Value → Led → Prop, J 0 [] N₁ ∧ (∀ i ys N, J i ys N → (l, tup vs) ∈ N) ∧
      (∀ i u ys N C o, vs[i]? = some u → J i ys N → Bnd o x u → Off N [(C, o)] →
        Sat w c f (forIn ifs true fun t r => if r = true then do let ok ← isTrue t (compEnvC scope cl C env) (eval t (compEnvC scope cl C env)); pure (ForInStep.yield ok) else pure (ForInStep.yield r)) m₁ (N ++ [(C, o)]) fun b m' N' => m' = m₁ ∧ ∃ N₂, N' = N₂ ++ [(C, o)] ∧ Off N₂ [(C, o)] ∧
          if b = true then Sat w c f (eval elt (compEnvC scope cl C env)) m₁ (N₂ ++ [(C, o)]) fun y m'' N'' => m'' = m₁ ∧ ∃ N₃, N'' = N₃ ++ [(C, o)] ∧ Off N₃ [(C, o)] ∧ J (i + 1) (ys ++ [y]) N₃ else J (i + 1) ys N₂) ∧
      (∀ D ys k N, J vs.length ys N → (∀ p ∈ N, p.1 ≠ D) → ys.length ≤ vs.length → Q (.ref D) m₁ ((D, lst ys k) :: N)))
    (hs : ∀ x, foldedSetIterable iter env x = pure x := by intro _; rfl) : Sat w c f (eval (.ListComp elt [⟨.Name x px, iter, ifs, 0⟩] scope pos) env) m N Q := by
  intro s M R F X O hR
  rw [eval_ListComp]
  refine wpAny_comprehension_free (use := none) rfl hs hclos ok.kind ok.names (h s M _ F X O fun v m₁ N₁ h₁ t₁ q F₁ X₁ O₁ => ?_)
  obtain ⟨l, vs, rfl, hvs, J, J0, Jm, turn, fin⟩ := q
  refine wpAny_pyIter_tuple (ofNewsT X₁ (Jm _ _ _ J0)) ?_
  have ltM : ∀ p ∈ M, p.1 < h₁.objs.size := fun p hp => Heap.lt_size (X₁ p (List.mem_append_right _ hp)).1
  have ltN : ∀ p ∈ N₁, p.1 < h₁.objs.size := fun p hp => Heap.lt_size (X₁ p (List.mem_append_left _ hp)).1
  have X₂ := news_in (o := { cls := .type "tuple_iterator", data := .fields #[.ref l, .int 0 0] }) F₁ X₁ rfl
  have F₂ := F₁.push ({ cls := .type "tuple_iterator", data := .fields #[.ref l, .int 0 0] } : Obj)
  have O₂ : Off N₁ ((h₁.objs.size, ({ cls := .type "tuple_iterator", data := .fields #[.ref l, .int 0 0] } : Obj)) :: M) := off_in O₁ ltN
  have z₂ : (h₁.push { cls := .type "tuple_iterator", data := .fields #[.ref l, .int 0 0] }).objs.size = h₁.objs.size + 1 := Heap.size_push ..
  have g₂ : (h₁.push { cls := .type "tuple_iterator", data := .fields #[.ref l, .int 0 0] }).IsTupleIter h₁.objs.size l 0 := ⟨_, Heap.get?_push_size _ rfl, rfl, rfl⟩
  generalize ({ cls := .type "tuple_iterator", data := .fields #[.ref l, .int 0 0] } : Obj) = io at X₂ F₂ O₂ z₂ g₂ ⊢
  generalize hh₂ : h₁.push io = h₂ at X₂ F₂ z₂ g₂ ⊢
  refine wpAny_newObj_type ?_
  have X₃ := news_in (o := lst [] 0) F₂ X₂ rfl
  have F₃ := F₂.push (lst [] 0)
  have O₃ : Off N₁ ((h₂.objs.size, lst [] 0) :: (h₁.objs.size, io) :: M) := off_in O₂ fun p hp => by rw [z₂]; exact Nat.lt_succ_of_lt (ltN p hp)
  have z₃ : (h₂.push (lst [] 0)).objs.size = h₁.objs.size + 2 := by rw [Heap.size_push, z₂]
  have g₃ : (h₂.push (lst [] 0)).IsTupleIter h₁.objs.size l 0 := let ⟨o, a, b⟩ := g₂; ⟨o, Heap.get?_push_of_some _ a, b⟩
  generalize hh₃ : h₂.push (lst [] 0) = h₃ at X₃ F₃ z₃ g₃ ⊢
  have hDI : h₂.objs.size ≠ h₁.objs.size := by rw [z₂]; omega
  have hCD : h₃.objs.size ≠ h₂.objs.size := by rw [z₃, z₂]; omega
  have hCI : h₃.objs.size ≠ h₁.objs.size := by rw [z₃]; omega
  refine wpAny_newFunctionEnv ok.cell (by intro y hy; simp at hy) (fun h₄ hns₄ hsb₄ => ?_) ok.kind
  dsimp only [Option.isSome_some] at hns₄ hsb₄ ⊢
  rw [if_pos rfl] at hsb₄
  have X₄' := news_in (o := { cls := .type "dict", data := .dict #[] }) F₃ X₃ rfl
  have F₄' := F₃.push ({ cls := .type "dict", data := .dict #[] } : Obj)
  have hC' := X₄' (h₃.objs.size, _) (List.mem_append_right _ (.head _))
  have hCM : ∀ p ∈ (h₂.objs.size, lst [] 0) :: (h₁.objs.size, io) :: M, p.1 ≠ h₃.objs.size := fun p hp => Nat.ne_of_lt (Heap.lt_size (X₃ p (List.mem_append_right _ hp)).1)
  have hCN : ∀ p ∈ N₁, p.1 ≠ h₃.objs.size := fun p hp => Nat.ne_of_lt (Heap.lt_size (X₃ p (List.mem_append_left _ hp)).1)
  obtain ⟨o₄, es₄, ep₄, ho₄, hd₄, hk₄, hm₄⟩ := id hns₄
  have X₄ := news_put X₄' hCN hCM hsb₄ ho₄
  have F₄ : Fr c.h₀ c.L h₄ m₁ := F₄'.change hsb₄ hC'.2.1 hC'.2.2
  have O₄ : Off N₁ ((h₃.objs.size, o₄) :: (h₂.objs.size, lst [] 0) :: (h₁.objs.size, io) :: M) := fun p hp q hq => by
    rcases List.mem_cons.mp hq with rfl | hq
    · exact hCN p hp
    · exact O₃ p hp q hq
  have hIM : ∀ p ∈ M, p.1 ≠ h₁.objs.size := fun p hp => Nat.ne_of_lt (ltM p hp)
  have hDM : ∀ io' : Obj, ∀ p ∈ (h₁.objs.size, io') :: M, p.1 ≠ h₂.objs.size := fun io' p hp => by
    rcases List.mem_cons.mp hp with rfl | hp
    · exact hDI.symm
    · rw [z₂]; exact Nat.ne_of_lt (Nat.lt_succ_of_lt (ltM p hp))
  have g₄ : h₄.IsTupleIter h₁.objs.size l 0 := let ⟨o, a, b⟩ := g₃; ⟨o, (hsb₄.2 _ hCI.symm).trans (Heap.get?_push_of_some _ a), b⟩
  have loop : codeAny (model P0 w) (c.A f) (.compLoop (.ListComp elt [⟨.Name x px, iter, ifs, 0⟩] scope pos) 0 (.ref h₁.objs.size) (.ref h₂.objs.size) (compEnvC scope cl h₃.objs.size env))
      (compPost (model P0 w) (c.A f) (fun _ _ => False) none R (.ref h₂.objs.size) h₃.objs.size) { s with heap := h₄, toks := t₁ + ([] : List (Str × Value)).length } := by
    refine codeAny_compLoop_tests (fun k s' => ∃ i ys N h' tk io' co yn mC, s' = { s with heap := h', toks := tk } ∧ i ≤ vs.length ∧ ys.length ≤ i ∧ k = vs.length + 1 - i ∧ J i ys N ∧ Fr c.h₀ c.L h' m₁ ∧
        News c.h₀ c.L h' (N ++ (h₃.objs.size, co) :: (h₂.objs.size, lst ys yn) :: (h₁.objs.size, io') :: M) ∧ Off N ((h₃.objs.size, co) :: (h₂.objs.size, lst ys yn) :: (h₁.objs.size, io') :: M) ∧ h'.Ns h₃.objs.size mC ∧ h'.IsTupleIter h₁.objs.size l i)
      ?_ (vs.length + 1) ⟨0, [], N₁, h₄, _, io, o₄, 0, _, rfl, Nat.zero_le _, Nat.le_refl _, rfl, J0, F₄, X₄, O₄, hns₄, g₄⟩ (fun _ => rfl)
    rintro k s' ⟨i, ys, N, h', tk, io', co, yn, mC, rfl, hi, hys, rfl, hJ, F', X', O', hns', hit⟩
    have hNC : ∀ p ∈ N, p.1 ≠ h₃.objs.size := fun p hp => O' p hp (h₃.objs.size, co) (.head _)
    have hND : ∀ p ∈ N, p.1 ≠ h₂.objs.size := fun p hp => O' p hp (h₂.objs.size, lst ys yn) (.tail _ (.head _))
    have hNI : ∀ p ∈ N, p.1 ≠ h₁.objs.size := fun p hp => O' p hp (h₁.objs.size, io') (.tail _ (.tail _ (.head _)))
    have hI := X' (h₁.objs.size, io') (List.mem_append_right _ (.tail _ (.tail _ (.head _))))
    have hC := X' (h₃.objs.size, co) (List.mem_append_right _ (.head _))
    by_cases hlt : i < vs.length
    · refine wpAny_pyNext_tuple_item hit (ofNewsT X' (Jm _ _ _ hJ)) (x := vs[i]) (by simp [hlt]) fun h₅ hit₅ hs₅ => ?_
      obtain ⟨io₅, gi₅, _, _⟩ := id hit₅
      have F₅ : Fr c.h₀ c.L h₅ m₁ := F'.change hs₅ hI.2.1 hI.2.2
      have X₅ : News c.h₀ c.L h₅ (N ++ (h₃.objs.size, co) :: (h₂.objs.size, lst ys yn) :: (h₁.objs.size, io₅) :: M) := by
        have a : News c.h₀ c.L h' ((N ++ [(h₃.objs.size, co), (h₂.objs.size, lst ys yn)]) ++ (h₁.objs.size, io') :: M) := by simpa using X'
        have := news_put a (fun p hp => by
          rcases List.mem_append.mp hp with hp | hp
          · exact hNI p hp
          · rcases List.mem_cons.mp hp with rfl | hp
            · exact hCI
            · rcases List.mem_cons.mp hp with rfl | hp
              · exact hDI
              · cases hp) hIM hs₅ gi₅
        simpa using this
      have hns₅ : h₅.Ns h₃.objs.size mC := hns'.sameBut hs₅ hCI
      refine wpAny_assign_Name (wpAny_storeName_local (env := compEnvC scope cl h₃.objs.size env) (lookup_relabel_local ok.x) hns₅ (fun h₆ hns₆ hs₆ => ?_) (by simp [compEnvC, relabel, ok.kind]))
      obtain ⟨co₆, es₆, ep₆, gc₆, hd₆, hk₆, hm₆⟩ := id hns₆
      have F₆ : Fr c.h₀ c.L h₆ m₁ := F₅.change hs₆ hC.2.1 hC.2.2
      have X₆ : News c.h₀ c.L h₆ ((N ++ [(h₃.objs.size, co₆)]) ++ (h₂.objs.size, lst ys yn) :: (h₁.objs.size, io₅) :: M) := by
        have := news_put X₅ hNC (fun p hp => by
          rcases List.mem_cons.mp hp with rfl | hp
          · exact hCD.symm
          · rcases List.mem_cons.mp hp with rfl | hp
            · exact hCI.symm
            · exact hCM p (.tail _ (.tail _ hp))) hs₆ gc₆
        simpa using this
      have O₆ : Off (N ++ [(h₃.objs.size, co₆)]) ((h₂.objs.size, lst ys yn) :: (h₁.objs.size, io₅) :: M) := fun p hp q hq => by
        rcases List.mem_append.mp hp with hp | hp
        · rcases List.mem_cons.mp hq with rfl | hq
          · exact hND p hp
          · rcases List.mem_cons.mp hq with rfl | hq
            · exact hNI p hp
            · exact O' p hp q (.tail _ (.tail _ (.tail _ hq)))
        · rcases List.mem_cons.mp hp with rfl | hp
          · rcases List.mem_cons.mp hq with rfl | hq
            · exact hCD
            · rcases List.mem_cons.mp hq with rfl | hq
              · exact hCI
              · exact (hCM q (.tail _ (.tail _ hq))).symm
          · cases hp
      have onC : Off N [(h₃.objs.size, co₆)] := fun p hp q hq => by
        rcases List.mem_cons.mp hq with rfl | hq
        · exact hNC p hp
        · cases hq
      have hM3 : ∀ p ∈ M, p.1 ≠ h₃.objs.size := fun p hp => hCM p (.tail _ (.tail _ hp))
      refine (turn i vs[i] ys N h₃.objs.size co₆ (by simp [hlt]) hJ ⟨es₆, ep₆, _, hd₆, hk₆, hm₆, by simp⟩ onC).at F₆ X₆ O₆ fun b m₇ N₇ h₇ t₇ q F₇ X₇ O₇ => ?_
      obtain ⟨rfl, N₇, rfl, on₇, q⟩ := q
      have iter : ∀ (h : Heap) (N : Led) (ys' : List Value) (yn' : Nat), News c.h₀ c.L h ((N ++ [(h₃.objs.size, co₆)]) ++ (h₂.objs.size, lst ys' yn') :: (h₁.objs.size, io₅) :: M) → h.IsTupleIter h₁.objs.size l (i + 1) ∧ h.Ns h₃.objs.size (fun y => if y = x then some vs[i] else mC y) := fun h N ys' yn' X => by
        constructor
        · obtain ⟨o', a, b⟩ := hit₅
          rw [gi₅] at a; cases a
          exact ⟨io₅, (X (h₁.objs.size, io₅) (List.mem_append_right _ (.tail _ (.head _)))).1, b⟩
        · exact ⟨co₆, es₆, ep₆, (X (h₃.objs.size, co₆) (List.mem_append_left _ (List.mem_append_right _ (.head _)))).1, hd₆, hk₆, hm₆⟩
      have offs : ∀ (N : Led) (ys' : List Value) (yn' : Nat), Off (N ++ [(h₃.objs.size, co₆)]) ((h₂.objs.size, lst ys' yn') :: (h₁.objs.size, io₅) :: M) → (∀ p ∈ N, p.1 ≠ h₃.objs.size) → Off N ((h₃.objs.size, co₆) :: (h₂.objs.size, lst ys' yn') :: (h₁.objs.size, io₅) :: M) := fun N ys' yn' O k p hp q hq => by
        rcases List.mem_cons.mp hq with rfl | hq
        · exact k p hp
        · exact O p (List.mem_append_left _ hp) q hq
      cases b with
      | false =>
        simp only [Bool.false_eq_true, if_false] at q ⊢
        obtain ⟨it, ns⟩ := iter _ _ _ _ X₇
        exact ⟨vs.length + 1 - (i + 1), by omega, i + 1, ys, N₇, h₇, t₇, io₅, co₆, yn, _, rfl, hlt, by omega, rfl, q, F₇, by simpa using X₇, offs _ _ _ O₇ fun p hp => on₇ p hp _ (.head _), ns, it⟩
      | true =>
        simp only [if_true] at q ⊢
        refine q.at F₇ X₇ O₇ fun y m₈ N₈ h₈ t₈ q F₈ X₈ O₈ => ?_
        obtain ⟨rfl, N₈, rfl, on₈, q⟩ := q
        have hD := X₈ (h₂.objs.size, lst ys yn) (List.mem_append_right _ (.head _))
        refine append_at (its := ys.toArray) (n := yn) hD.1 (fun h₉ hs₉ hg₉ => ?_) (by rw [sizeLine_eq]; simp; omega)
        have F₉ : Fr c.h₀ c.L h₉ m₈ := F₈.change hs₉ hD.2.1 hD.2.2
        have X₉ : News c.h₀ c.L h₉ ((N₈ ++ [(h₃.objs.size, co₆)]) ++ (h₂.objs.size, lst (ys ++ [y]) (yn + 1)) :: (h₁.objs.size, io₅) :: M) := by
          refine news_put X₈ (fun p hp => O₈ p hp (h₂.objs.size, lst ys yn) (.head _)) (hDM _) hs₉ ?_
          rw [hg₉]; simp
        have O₉ := off_swap (io' := lst (ys ++ [y]) (yn + 1)) O₈
        obtain ⟨it, ns⟩ := iter _ _ _ _ X₉
        exact ⟨vs.length + 1 - (i + 1), by omega, i + 1, ys ++ [y], N₈, h₉, t₈, io₅, co₆, yn + 1, _, rfl, hlt, by simp; omega, rfl, q, F₉, by simpa using X₉, offs _ _ _ O₉ fun p hp => on₈ p hp _ (.head _), ns, it⟩
    · have : i = vs.length := by omega
      subst this
      refine wpAny_pyNext_tuple_end rfl hit (ofNewsT X' (Jm _ _ _ hJ)) (by simp) fun h₅ hs₅ => ?_
      refine ⟨mC, hns'.extBut hs₅ hCI, fun h₆ hs₆ => ?_⟩
      have F₅ : Fr c.h₀ c.L h₅ m₁ := fr_out F' hI.2.2 hI.2.1 hs₅
      have F₆ : Fr c.h₀ c.L h₆ m₁ := F₅.change hs₆ hC.2.1 hC.2.2
      have keep : ∀ p ∈ N ++ (h₃.objs.size, co) :: (h₂.objs.size, lst ys yn) :: (h₁.objs.size, io') :: M, p.1 ≠ h₁.objs.size → p.1 ≠ h₃.objs.size → h₆.get? p.1 = some p.2 ∧ p.1 ≠ c.L ∧ c.h₀.get? p.1 = none := fun p hp a b =>
        ⟨(hs₆.2 _ b).trans (hs₅ _ _ a (X' p hp).1), (X' p hp).2⟩
      have X₆ : News c.h₀ c.L h₆ (((h₂.objs.size, lst ys yn) :: N) ++ M) := fun p hp => by
        rcases List.mem_append.mp hp with hp | hp
        · rcases List.mem_cons.mp hp with rfl | hp
          · exact keep _ (List.mem_append_right _ (.tail _ (.head _))) hDI hCD.symm
          · exact keep p (List.mem_append_left _ hp) (hNI p hp) (hNC p hp)
        · exact keep p (List.mem_append_right _ (.tail _ (.tail _ (.tail _ hp)))) (hIM p hp) (hCM p (.tail _ (.tail _ hp)))
      refine hR _ _ _ _ _ (fin h₂.objs.size ys yn N hJ hND hys) F₆ X₆ fun p hp q hq => ?_
      rcases List.mem_cons.mp hp with rfl | hp
      · exact (hDM io' q (.tail _ hq)).symm
      · exact O' p hp q (.tail _ (.tail _ (.tail _ hq)))
  exact codeAny_compStart_list loop (wpAny_pyIter_tupleiter g₄ loop)

end
-- lists of texts, one before the other
noncomputable def llt : List Str → List Str → Bool
  | [], [] => false
  | [], _ :: _ => true
  | _ :: _, [] => false
  | x :: xs, y :: ys => if x = y then llt xs ys else decide (x.cps.toList < y.cps.toList)
section
open SeqAt MeetsSeq MeetsSeq2 MeetsSeq3
open AutoSeq1 (wpAny_loadPart')
theorem strs_at {vs : List Value} {ss : List Str} (h : StrsAre vs ss) {i : Nat} (hi : i < vs.length) : ∃ x t, vs[i]? = some (.str x t) ∧ ss.drop i = x :: ss.drop (i + 1) := by
  have hl := StrsAre.len_eq h
  have : ss[i]? = some (ss[i]'(by omega)) := by simp
  obtain ⟨t, e⟩ := StrsAre.at h this
  exact ⟨_, t, e, by rw [List.drop_eq_getElem_cons (by omega)]⟩
theorem lt_loopAt (l b : Addr) (vs us : List Value) (n n2 : Nat) (dd dd2 : Option Addr) (sl sl2 : Array (Option Value)) (ra rb : List Str) (Sa : StrsAre vs ra) (Sb : StrsAre us rb) (k : Nat) :
    ∀ i : Nat, vs.length - i = k → i ≤ vs.length → Meets (Builtin.«list.__eq__.loop» ⟨[.ref l, .ref b, rawInt i, rawInt 0], []⟩)
      (fun A R s => s.heap.get? l = some { cls := .type "list", dict := dd, data := .seq vs.toArray n, slots := sl } ∧ s.heap.get? b = some { cls := .type "list", dict := dd2, data := .seq us.toArray n2, slots := sl2 } ∧
        R (.ok (.ret (.bool (llt (ra.drop i) (rb.drop i))))) s) := by
  have la := StrsAre.len_eq Sa
  have lb := StrsAre.len_eq Sb
  induction k with
  | zero =>
    intro i hk hi prog w A R s h
    obtain ⟨hp, g, d, tk, os⟩ := s; obtain ⟨hl, hb, h⟩ := h
    wp_walk using wpAny_loadPart' hl, wpAny_loadPart' hb
    have hi1 : vs.toArray[((i : Nat) : Int).toNat]? = none := by simp; omega
    have e1 : ra.drop i = [] := by simp; omega
    rw [hi1]
    rw [e1] at h
    wp_walk using wpAny_loadPart' hl, wpAny_loadPart' hb
    show R (.ok (.ret (.bool (decide (vs.toArray.size < us.toArray.size))))) _
    cases e2 : rb.drop i with
    | nil =>
      rw [e2] at h
      have : rb.length ≤ i := by simpa using e2
      have hd : decide (vs.toArray.size < us.toArray.size) = false := by simp; omega
      rw [hd]; exact h
    | cons y ys =>
      rw [e2] at h
      have : i < rb.length := by
        rcases Nat.lt_or_ge i rb.length with q | q
        · exact q
        · rw [List.drop_eq_nil_of_le q] at e2; cases e2
      have hd : decide (vs.toArray.size < us.toArray.size) = true := by simp; omega
      rw [hd]; exact h
  | succ k ih =>
    intro i hk hi prog w A R s h
    obtain ⟨hp, g, d, tk, os⟩ := s; obtain ⟨hl, hb, h⟩ := h
    wp_walk using wpAny_loadPart' hl, wpAny_loadPart' hb
    have hlt : i < vs.length := by omega
    obtain ⟨x, t, hx, dx⟩ := strs_at Sa hlt
    have hi1 : vs.toArray[((i : Nat) : Int).toNat]? = some (.str x t) := by simpa using hx
    rw [hi1]
    by_cases h2 : i < us.length
    · obtain ⟨y, u, hy, dy⟩ := strs_at Sb h2
      have hi2 : us.toArray[((i : Nat) : Int).toNat]? = some (.str y u) := by simpa using hy
      rw [hi2]
      rw [dx, dy] at h
      refine wpAny_bind (EqAt.str_str x t y u prog w _ _ ?_)
      by_cases e : x = y
      · subst e
        have hc : ((i : Int) + 1) = ((i + 1 : Nat) : Int) := by push_cast; rfl
        simp only [beq_self_eq_true]
        wp_walk
        rw [hc]
        exact ⟨plainId_quiet plain_eq_loop _, codeAny_builtin entry_eq_loop (by
          rw [Around.under_plainId plain_eq_loop _]
          exact ih (i + 1) (by omega) (by omega) prog w A R _ ⟨hl, hb, by simpa [llt] using h⟩)⟩
      · have : (x == y) = false := by simpa using e
        rw [this]
        wp_walk using wpAny_loadPart' hl, wpAny_loadPart' hb
        rw [hi1, hi2]
        have hr : R (.ok (.ret (.bool (decide (x.cps.toList < y.cps.toList))))) ⟨hp, g, d, tk, os⟩ := by simpa [llt, e] using h
        refine wpAny_bind (PyProof.Rows.lt_str (wpAny_pure ?_))
        exact hr
    · have hi2 : us.toArray[((i : Nat) : Int).toNat]? = none := by simp; omega
      have e2 : rb.drop i = [] := by simp; omega
      rw [hi2]
      rw [dx, e2] at h
      wp_walk using wpAny_loadPart' hl, wpAny_loadPart' hb
      show R (.ok (.ret (.bool (decide (vs.toArray.size < us.toArray.size))))) _
      have hd : decide (vs.toArray.size < us.toArray.size) = false := by simp; omega
      rw [hd]; exact h
theorem list_ltAt (l b : Addr) (vs us : List Value) (n n2 : Nat) (dd dd2 : Option Addr) (sl sl2 : Array (Option Value)) (ra rb : List Str) (Sa : StrsAre vs ra) (Sb : StrsAre us rb) :
    Meets (Builtin.«list.__lt__» ⟨[.ref l, .ref b], []⟩)
      (fun A R s => s.heap.get? l = some { cls := .type "list", dict := dd, data := .seq vs.toArray n, slots := sl } ∧ s.heap.get? b = some { cls := .type "list", dict := dd2, data := .seq us.toArray n2, slots := sl2 } ∧
        R (.ok (.ret (.bool (llt ra rb)))) s) := by
  intro prog w A R s h
  obtain ⟨hp, g, d, tk, os⟩ := s; obtain ⟨hl, hb, h⟩ := h
  have f3 := AutoSeq1.sub_list_list
  wp_walk using wpAny_loadPart' hl, wpAny_loadPart' hb
  exact ⟨plainId_quiet plain_eq_loop _, codeAny_builtin entry_eq_loop (by
    rw [Around.under_plainId plain_eq_loop _]
    exact lt_loopAt l b vs us n n2 dd dd2 sl sl2 ra rb Sa Sb _ 0 rfl (Nat.zero_le _) prog w A R _ ⟨hl, hb, by simpa using h⟩)⟩
theorem keyLt_lists {prog : Program} {w : World} {A : Around} {E : Value → Shared → Prop} {s : Shared} {l b : Addr} {vs us : List Value} {ra rb : List Str} {Q : Bool → Shared → Prop} (hl : s.heap.IsList l vs.toArray) (hb : s.heap.IsList b us.toArray)
    (Sa : StrsAre vs ra) (Sb : StrsAre us rb) (hu : A.units < cLine) (h : Q (llt ra rb) s) : wpAny (model prog w) A (keyLt' oneType' (.ref l) (.ref b)) Q E s := by
  obtain ⟨⟨cls, dd, data, sl⟩, ho, hc, n, hd⟩ := id hl
  obtain ⟨⟨cls2, dd2, data2, sl2⟩, ho2, hc2, n2, hd2⟩ := id hb
  simp only at hc hd hc2 hd2
  subst hc hd hc2 hd2
  rw [keyLt'_oneType, oneLt'_eq]
  simp only [if_true]
  refine wpAny_bind (wpAny_cRoomFor hu ?_)
  refine wpAny_bind (wpAny_callSpecialIfBound?_slot (T := "list") ⟨_, ho, rfl⟩ F.slot_list_lt (call_meets F.slot_list_lt ⟨_, ho, rfl⟩ F.entry_list_lt (F.args_list_lt_2 _ _) (list_ltAt l b vs us n n2 dd dd2 sl sl2 ra rb Sa Sb) ⟨ho, ho2, ?_⟩))
  exact wpAny_truthy_bool h

-- lists of texts, the same
theorem eqAt_strs {A : Around} {s : Shared} {a b : Addr} {us ks : List Value} {ra rb : List Str} (ha : s.heap.IsList a us.toArray) (hb : s.heap.IsList b ks.toArray) (Sa : StrsAre us ra) (Sb : StrsAre ks rb) (hu : A.units < cLine) :
    EqAt A s (.ref a) (.ref b) (decide (ra = rb)) := by
  have la := StrsAre.len_eq Sa
  have lb := StrsAre.len_eq Sb
  by_cases hab : a = b
  · subst hab
    have e : us = ks := by
      obtain ⟨o, ho, _, n, hd⟩ := ha
      obtain ⟨o', ho', _, n', hd'⟩ := hb
      rw [ho] at ho'; cases ho'
      rw [hd] at hd'
      injection hd' with e1 _
      simpa using congrArg Array.toList e1
    subst e
    have : ra = rb := by rw [← StrsAre.strs Sa, ← StrsAre.strs Sb]
    rw [decide_eq_true this]
    exact EqAt.same _
  · by_cases hz : us.length = ks.length
    · have : decide (ra = rb) = (List.range us.toArray.size).all fun j => decide (ra[j]? = rb[j]?) := by
        rw [Bool.eq_iff_iff]
        simp only [decide_eq_true_eq, List.all_eq_true, List.mem_range, List.size_toArray]
        constructor
        · rintro rfl _ _; rfl
        · intro h
          apply List.ext_getElem?
          intro i
          rcases Nat.lt_or_ge i us.length with q | q
          · exact h i q
          · rw [List.getElem?_eq_none (by omega), List.getElem?_eq_none (by omega)]
      rw [this]
      refine EqAt.of_refs hab (RcAt.lists ha hb (by simpa using hz) hu fun j h1 h2 => ?_)
      simp only [List.size_toArray] at h1 h2
      obtain ⟨x, t, e1, _⟩ := strs_at Sa h1
      obtain ⟨y, u, e2, _⟩ := strs_at Sb h2
      obtain ⟨x', t', e1', f1⟩ := StrsAre.item Sa j _ e1
      obtain ⟨y', u', e2', f2⟩ := StrsAre.item Sb j _ e2
      cases e1'; cases e2'
      have g1 : us.toArray[j]'(by simpa using h1) = .str x t := by
        have := List.getElem?_eq_some_iff.mp e1
        obtain ⟨_, e⟩ := this
        simpa using e
      have g2 : ks.toArray[j]'(by simpa using h2) = .str y u := by
        have := List.getElem?_eq_some_iff.mp e2
        obtain ⟨_, e⟩ := this
        simpa using e
      rw [g1, g2, f1, f2]
      have : decide (some x = some y) = (x == y) := by
        rw [Bool.eq_iff_iff]; simp
      rw [this]
      exact EqAt.str_str x t y u
    · have : ¬ ra = rb := fun e => hz (by rw [la, lb, e])
      rw [decide_eq_false this]
      exact EqAt.of_refs hab (RcAt.lists_lengths ha hb (by simpa using hz) hu)
end
/-- a list of lists of texts -/
inductive RowsAt (N : Led) : List Value → List (List Str) → Prop
  | nil : RowsAt N [] []
  | cons {a : Addr} {us : List Value} {k : Nat} {r : List Str} {vs : List Value} {rs : List (List Str)} : (a, lst us k) ∈ N → StrsAre us r → RowsAt N vs rs → RowsAt N (.ref a :: vs) (r :: rs)
theorem RowsAt.len {N : Led} {vs : List Value} {rs : List (List Str)} (h : RowsAt N vs rs) : vs.length = rs.length := by
  induction h with
  | nil => rfl
  | cons _ _ _ ih => simp [ih]
theorem RowsAt.sub {N N' : Led} {vs : List Value} {rs : List (List Str)} (h : RowsAt N vs rs) (k : ∀ p ∈ N, p ∈ N') : RowsAt N' vs rs := by
  induction h with
  | nil => exact .nil
  | cons a b _ ih => exact .cons (k _ a) b ih
theorem RowsAt.app {N : Led} {vs us : List Value} {rs qs : List (List Str)} (h : RowsAt N vs rs) (h2 : RowsAt N us qs) : RowsAt N (vs ++ us) (rs ++ qs) := by
  induction h with
  | nil => exact h2
  | cons a b _ ih => exact .cons a b ih
theorem RowsAt.at {N : Led} {vs : List Value} {rs : List (List Str)} (h : RowsAt N vs rs) : ∀ {i : Nat}, i < vs.length → ∃ a us k r, vs[i]? = some (.ref a) ∧ rs[i]? = some r ∧ (a, lst us k) ∈ N ∧ StrsAre us r := by
  induction h with
  | nil => intro i hi; simp at hi
  | cons a b _ ih =>
    intro i hi
    cases i with
    | zero => exact ⟨_, _, _, _, rfl, rfl, a, b⟩
    | succ i => exact ih (by simpa using hi)
section
open SeqAt MeetsSeq MeetsSeq2 MeetsSeq3
variable {w : World} {c : Fx} {f : Fn} {m : Loc} {N : Led}
theorem rows_all {rs qs : List (List Str)} {k : Nat} (h1 : rs.length = k) (h2 : qs.length = k) : decide (rs = qs) = (List.range k).all fun j => decide (rs[j]? = qs[j]?) := by
  rw [Bool.eq_iff_iff]
  simp only [decide_eq_true_eq, List.all_eq_true, List.mem_range]
  constructor
  · rintro rfl _ _; rfl
  · intro h
    apply List.ext_getElem?
    intro i
    rcases Nat.lt_or_ge i k with q | q
    · exact h i q
    · rw [List.getElem?_eq_none (by omega), List.getElem?_eq_none (by omega)]
theorem rows_each {s : Shared} {A : Around} {h₀ : Heap} {L : Addr} {M : Led} (X : News h₀ L s.heap (N ++ M)) {vs us : List Value} {rs qs : List (List Str)} (R1 : RowsAt N vs rs) (R2 : RowsAt N us qs) (hu : A.units < cLine) (j : Nat) (h1 : j < vs.toArray.size) (h2 : j < us.toArray.size) :
    EqAt A s vs.toArray[j] us.toArray[j] (decide (rs[j]? = qs[j]?)) := by
  simp only [List.size_toArray] at h1 h2
  obtain ⟨a, as, k, r, e1, e2, m1, s1⟩ := R1.at h1
  obtain ⟨b, bs, k', q, f1, f2, m2, s2⟩ := R2.at h2
  have g1 : vs.toArray[j]'(by simpa using h1) = .ref a := by
    obtain ⟨_, e⟩ := List.getElem?_eq_some_iff.mp e1
    simpa using e
  have g2 : us.toArray[j]'(by simpa using h2) = .ref b := by
    obtain ⟨_, e⟩ := List.getElem?_eq_some_iff.mp f1
    simpa using e
  rw [g1, g2, e2, f2]
  have : decide (some r = some q) = decide (r = q) := by
    rw [Bool.eq_iff_iff]; simp
  rw [this]
  exact eqAt_strs (ofNews X m1) (ofNews X m2) s1 s2 hu
theorem p_eqRows {l b : Addr} {vs us : List Value} {n k : Nat} {rs qs : List (List Str)} {Q : Value → Loc → Led → Prop} (h1 : (l, lst vs n) ∈ N) (h2 : (b, lst us k) ∈ N) (R1 : RowsAt N vs rs) (R2 : RowsAt N us qs) (hu : c.un + 5 < cLine) (h : Q (.bool (decide (rs = qs))) m N) :
    Sat w c f (compareOp .Eq (.ref l) (.ref b)) m N Q := fun s M _ F X O hR => by
  by_cases hz : vs.length = us.length
  · rw [rows_all (k := vs.length) R1.len.symm (by rw [← R2.len, hz])] at h
    exact eq_listAt (ofNews X h1) (ofNews X h2) (by simpa using hz) (by show c.un < _; omega) (fun j a b => rows_each X R1 R2 (by show c.un + 1 < _; omega) j a b) (hR _ _ _ _ _ (by simpa using h) F X O)
  · have : ¬ rs = qs := fun e => hz (by rw [R1.len, R2.len, e])
    rw [decide_eq_false this] at h
    exact eq_list_lengthsAt (ofNews X h1) (ofNews X h2) (by simpa using hz) (by show c.un < _; omega) (hR _ _ _ _ _ h F X O)
theorem p_neRows {l b : Addr} {vs us : List Value} {n k : Nat} {rs qs : List (List Str)} {Q : Value → Loc → Led → Prop} (h1 : (l, lst vs n) ∈ N) (h2 : (b, lst us k) ∈ N) (R1 : RowsAt N vs rs) (R2 : RowsAt N us qs) (hu : c.un + 5 < cLine) (h : Q (.bool (!decide (rs = qs))) m N) :
    Sat w c f (compareOp .NotEq (.ref l) (.ref b)) m N Q := fun s M _ F X O hR => by
  by_cases hz : vs.length = us.length
  · rw [rows_all (k := vs.length) R1.len.symm (by rw [← R2.len, hz])] at h
    exact RcNeAt.lists (ofNews X h1) (ofNews X h2) (by simpa using hz) (by show c.un < _; omega) (fun j a b => rows_each X R1 R2 (by show c.un + 1 < _; omega) j a b) P0 w _ _ (hR _ _ _ _ _ (by simpa using h) F X O)
  · have : ¬ rs = qs := fun e => hz (by rw [R1.len, R2.len, e])
    rw [decide_eq_false this] at h
    exact RcNeAt.lists_lengths (ofNews X h1) (ofNews X h2) (by simpa using hz) (by show c.un < _; omega) P0 w _ _ (hR _ _ _ _ _ h F X O)
theorem p_sortedS {l : Addr} {vs : List Value} {n : Nat} {ss : List Str} {Q : Value → Loc → Led → Prop} (h1 : (l, lst vs n) ∈ N) (S : StrsAre vs ss) (h64 : ss.length < 64)
    (h : ∀ D vs' k ss', (∀ p ∈ N, p.1 < D) → StrsAre vs' ss' → ss'.Perm ss → sortedS ss' = true → Q (.ref D) m ((D, lst vs' k) :: N)) : Sat w c f (call (.builtin "sorted") [.ref l]) m N Q := fun s M _ F X O hR =>
  sorted_N_str F X (ofNews X h1) S (by rw [StrsAre.len_eq S]; exact h64) fun h' vs' ss' e F' X' a b d => hR _ _ _ _ _ (h _ vs' e ss' (fun p hp => Nat.lt_succ_of_lt (Heap.lt_size (X p (List.mem_append_left _ hp)).1)) a b d) F' (by simpa [lst, seqObj, PySem.W.listOf] using X') (O.cons fun p hp => Nat.lt_succ_of_lt (Heap.lt_size (X p hp).1))
end
section
variable {α β : Type} {w : World} {c : Fx} {f : Fn} {m : Loc} {N : Led} {env : Env}
/-- for over a list of the ledger -/
theorem sat_forL2 {x y : Str} {px py tp pos : Pos} {k : Nat} {iter : Expr} {body : List Stmt} {Q : Flow → Loc → Led → Prop}
    (h : Sat w c f (eval iter env) m N fun v m₁ N₁ => ∃ l vs n, v = .ref l ∧ ∃ J : Nat → Loc → Led → Prop, J 0 m₁ N₁ ∧ (∀ i m N, J i m N → (l, lst vs n) ∈ N) ∧
      (∀ i u m N, vs[i]? = some u → J i m N → ∃ t a b, u = .ref t ∧ (t, tup [a, b]) ∈ N ∧ Sat w c f (storeName env x a) m N fun _ m₀ N₀ => Sat w c f (storeName env y b) m₀ N₀ fun _ m' N' => Sat w c f (execs body env) m' N' fun fl m₂ N₂ => match fl with
        | .next | .cont => J (i + 1) m₂ N₂
        | .brk => Q .next m₂ N₂
        | .ret v => Q (.ret v) m₂ N₂) ∧
      (∀ m N, J vs.length m N → Q .next m N))
    (hs : ∀ x, foldedSetIterable iter env x = pure x := by intro _; rfl) : Sat w c f (exec (.For (.Tuple [.Name x px, .Name y py] k tp) iter body [] pos) env) m N Q := by
  intro s M R F X O hR
  refine wpAny_For (h s M _ F X O fun v m₁ N₁ h₁ t₁ q F₁ X₁ O₁ => ?_) hs
  obtain ⟨l, vs, n, rfl, J, J0, Jm, turn, fin⟩ := q
  refine wpAny_pyIter_list (ofNews X₁ (Jm _ _ _ J0)) ?_
  have hM : ∀ p ∈ M, p.1 ≠ h₁.objs.size := fun p hp => Nat.ne_of_lt (Heap.lt_size (X₁ p (List.mem_append_right _ hp)).1)
  refine codeAny_forLoop_any (fun k s' => ∃ i m N h' tk io, s' = { s with heap := h', toks := tk } ∧ i ≤ vs.length ∧ k = vs.length + 1 - i ∧ J i m N ∧ Fr c.h₀ c.L h' m ∧ News c.h₀ c.L h' (N ++ (h₁.objs.size, io) :: M) ∧ Off N ((h₁.objs.size, io) :: M) ∧ h'.IsListIter h₁.objs.size l i)
    ?_ (vs.length + 1) ⟨0, m₁, N₁, _, t₁, _, rfl, Nat.zero_le _, rfl, J0, F₁.push _, news_in F₁ X₁ rfl, off_in O₁ fun p hp => Heap.lt_size (X₁ p (List.mem_append_left _ hp)).1, ⟨_, Heap.get?_push_size _ rfl, rfl, rfl⟩⟩
  rintro k s' ⟨i, m, N, h', tk, io, rfl, hi, rfl, hJ, F', X', O', hit⟩
  have hN : ∀ p ∈ N, p.1 ≠ h₁.objs.size := fun p hp => O' p hp _ (.head _)
  have hI := X' (h₁.objs.size, io) (List.mem_append_right _ (.head _))
  by_cases hlt : i < vs.length
  · refine wpAny_pyNext_list_item hit (ofNews X' (Jm _ _ _ hJ)) (x := vs[i]) (by simp [hlt]) fun h₂ hit₂ hs₂ => ?_
    obtain ⟨io₂, g₂, _, _⟩ := id hit₂
    have F₂ : Fr c.h₀ c.L h₂ m := F'.change hs₂ hI.2.1 hI.2.2
    refine letGo_listiter hit₂ ?_
    obtain ⟨t, a, b, ht, hmt, turn⟩ := turn i vs[i] m N (by simp [hlt]) hJ
    rw [ht]
    have X₂ := news_put X' hN hM hs₂ g₂
    refine unpackN_ (items := #[a, b]) F₂ X₂ (ofNewsT (vs := [a, b]) X₂ hmt) rfl rfl rfl fun h₂' F₂' X₂' => ?_
    refine assignInOrder_cons (assign_Name ?_)
    refine turn.at F₂' X₂' (off_swap O') fun _ m₃ N₃ h₃ t₃ q F₃ X₃ O₃ => ?_
    refine assignInOrder_cons (assign_Name ?_)
    refine q.at F₃ X₃ O₃ fun _ m₃ N₃ h₃ t₃ q F₃ X₃ O₃ => assignInOrder_nil ?_
    refine q.at F₃ X₃ O₃ fun fl m₄ N₄ h₄ t₄ q₄ F₄ X₄ O₄ => ?_
    have h4 := X₄ (h₁.objs.size, io₂) (List.mem_append_right _ (.head _))
    have fit : h₄.IsListIter h₁.objs.size l (i + 1) := by
      obtain ⟨o', a, b⟩ := hit₂
      rw [g₂] at a; cases a
      exact ⟨io₂, h4.1, b⟩
    have out := news_out X₄ (fun p hp => O₄ p hp _ (.head _)) hM (Heap.ExtBut.refl h₁.objs.size h₄)
    have oo : Off N₄ M := fun p hp q hq => O₄ p hp q (.tail _ hq)
    cases fl with
    | next => exact ⟨vs.length + 1 - (i + 1), by omega, i + 1, m₄, N₄, h₄, t₄, io₂, rfl, hlt, rfl, q₄, F₄, X₄, O₄, fit⟩
    | cont => exact ⟨vs.length + 1 - (i + 1), by omega, i + 1, m₄, N₄, h₄, t₄, io₂, rfl, hlt, rfl, q₄, F₄, X₄, O₄, fit⟩
    | brk => exact hR _ _ _ _ _ q₄ F₄ out oo
    | ret v => exact hR _ _ _ _ _ q₄ F₄ out oo
  · have : i = vs.length := by omega
    subst this
    refine wpAny_pyNext_list_end rfl hit (ofNews X' (Jm _ _ _ hJ)) (by simp) fun h₂ hs₂ => wpAny_execs_nil ?_
    exact hR _ _ _ _ _ (fin _ _ hJ) (fr_out F' hI.2.2 hI.2.1 hs₂) (news_out X' hN hM hs₂) fun p hp q hq => O' p hp q (.tail _ hq)

theorem sat_assignT {x y : Str} {px py tp pos : Pos} {k : Nat} {value : Expr} {Q : Flow → Loc → Led → Prop}
    (h : Sat w c f (eval value env) m N fun v m₁ N₁ => ∃ t a b, v = .ref t ∧ (t, tup [a, b]) ∈ N₁ ∧ Sat w c f (storeName env x a) m₁ N₁ fun _ m₂ N₂ => Sat w c f (storeName env y b) m₂ N₂ fun _ => Q .next)
    (hs : swapsWithSole [.Tuple [.Name x px, .Name y py] k tp] value pos.line env = pure false := by rfl)
    (hw : swappedStores [.Tuple [.Name x px, .Name y py] k tp] value env = pure none := by rfl) : Sat w c f (exec (.Assign [.Tuple [.Name x px, .Name y py] k tp] value pos) env) m N Q :=
  fun s M R F X O hR => Assign_Tuple (h s M _ F X O fun v m₁ N₁ h₁ t₁ q F₁ X₁ O₁ => by
    obtain ⟨t, a, b, rfl, hm, q⟩ := q
    refine unpackN_ (items := #[a, b]) F₁ X₁ (ofNewsT (vs := [a, b]) X₁ hm) rfl rfl rfl fun h₂' F₂' X₂' => ?_
    refine assignInOrder_cons (assign_Name ?_)
    refine q.at F₂' X₂' O₁ fun _ m₃ N₃ h₃ t₃ q F₃ X₃ O₃ => ?_
    refine assignInOrder_cons (assign_Name ?_)
    exact q.at F₃ X₃ O₃ fun _ m₃ N₃ h₃ t₃ q F₃ X₃ O₃ => assignInOrder_nil (hR _ _ _ _ _ q F₃ X₃ O₃)) hs hw
theorem sat_assignW {x y : Str} {px py tp pos : Pos} {k : Nat} {value : Expr} {Q : Flow → Loc → Led → Prop}
    (h : Sat w c f (eval value env) m N fun v m₁ N₁ => ∃ t a b, v = .ref t ∧ (t, tup [a, b]) ∈ N₁ ∧ Sat w c f (storeName env y b) m₁ N₁ fun _ m₂ N₂ => Sat w c f (storeName env x a) m₂ N₂ fun _ => Q .next)
    (hs : swapsWithSole [.Tuple [.Name x px, .Name y py] k tp] value pos.line env = pure false)
    (hw : swappedStores [.Tuple [.Name x px, .Name y py] k tp] value env = pure (some [x, y])) : Sat w c f (exec (.Assign [.Tuple [.Name x px, .Name y py] k tp] value pos) env) m N Q :=
  fun s M R F X O hR => Assign_Tuple_swapped (h s M _ F X O fun v m₁ N₁ h₁ t₁ q F₁ X₁ O₁ => by
    obtain ⟨t, a, b, rfl, hm, q⟩ := q
    refine unpackItemsN_ (items := #[a, b]) F₁ X₁ (ofNewsT (vs := [a, b]) X₁ hm) rfl rfl fun h₂' F₂' X₂' => ?_
    refine assignInOrder_cons (bindName_ ?_)
    refine q.at F₂' X₂' O₁ fun _ m₃ N₃ h₃ t₃ q F₃ X₃ O₃ => ?_
    refine assignInOrder_cons (bindName_ ?_)
    exact q.at F₃ X₃ O₃ fun _ m₃ N₃ h₃ t₃ q F₃ X₃ O₃ => assignInOrder_nil (hR _ _ _ _ _ q F₃ X₃ O₃)) hs hw
theorem sat_slice1 {o : Expr} {k : Nat} {p1 p2 pos : Pos} {Q : Value → Loc → Led → Prop}
    (h : Sat w c f (eval o env) m N fun v m₁ N₁ => ∃ t vs, v = .ref t ∧ (t, tup vs) ∈ N₁ ∧ 1 ≤ vs.length ∧ vs.length ≤ 16384 ∧ ∀ r, (∀ p ∈ N₁, p.1 < r) → Q (.ref r) m₁ ((r, tup (vs.drop 1)) :: N₁))
    (hs : ∀ a b, subscripted (.Slice (some (.Constant (.int 1) k p1)) none none p2) false (.ref a) (.ref b) = operate [.ref b, .ref a] (getItem (.ref a) (.ref b)) := by intro _ _; with_unfolding_all rfl)
    (hg : ∀ a r, letTemporaryGo o (.ref a) r = pure () := by intro _ _; with_unfolding_all rfl) : Sat w c f (eval (.Subscript o (.Slice (some (.Constant (.int 1) k p1)) none none p2) pos) env) m N Q :=
  fun s M R F X O hR => Subscript_ (h s M _ F X O fun v m₁ N₁ h₁ t₁ q F₁ X₁ O₁ => by
    obtain ⟨t, vs, rfl, hm, h1, hz, q⟩ := q
    refine wpAny_Slice ?_
    rw [evalPart_some]
    refine wpAny_Constant_int ?_
    rw [evalPart_none]
    refine wpAny_pure (wpAny_pure ?_)
    refine slice_tuple_from (items := vs.toArray) (a := 1) F₁ X₁ (ofNewsT X₁ hm) (Nat.le_refl _) (by simpa using h1) (fun h' F' X' => ?_) (hs _ _) (hg _) (by rw [sizeLine_eq]; simp; omega)
    exact hR _ _ _ _ _ (q _ fun p hp => Nat.lt_succ_of_lt (Heap.lt_size (X₁ p (List.mem_append_left _ hp)).1)) F' (by simpa using X') (O₁.cons fun p hp => Nat.lt_succ_of_lt (Heap.lt_size (X₁ p hp).1)))
theorem sat_truthy_int {a : Int} {t : Tok} {Q : Bool → Loc → Led → Prop} (h : Q (a != 0) m N) : Sat w c f (truthy (.int a t)) m N Q := fun _ _ _ F N O hR => PyProof.Rows.truthy_int (hR _ _ _ _ _ h F N O)
/-- a field more of an object under construction -/
theorem sat_init {x dx C : Addr} {es : List DictEntry} {ns : List Str} {vs : List Value} {n : Nat} {name : Str} {v : Value} {Q : Unit → Loc → Led → Prop} (hc : c.Ok w) (ha : attrIn (KF w.params) C name = true)
    (hF : Flds es ns vs) (h1 : ∀ p ∈ N, p.1 < dx) (h2 : dx < x) (hk : name ∉ ns) (hz : ns.length < 1000) (h : ∀ es', Flds es' (ns ++ [name]) (vs ++ [v]) → Q () m ((x, instObj C dx) :: (dx, dictOf es' (n + 1)) :: N)) :
    Sat w c f (setAttr (.ref x) name v) m ((x, instObj C dx) :: (dx, dictOf es n) :: N) Q :=
  sat_setNew (N₁ := fun es' => (x, instObj C dx) :: (dx, dictOf es' (n + 1)) :: N) hc ha (.head _) hF hk hz (fun es' => .tail (Nat.ne_of_gt h2) (.head fun p hp => Nat.ne_of_lt (h1 p hp))) h
end
-- the sort's questions, answered by an order: what comes out is in order
section
variable {O : KeyOrd} {key : Nat → O.α} {z : Nat}
noncomputable def kp (key : Nat → O.α) (p : Array Nat) (i : Nat) : O.α := key (p.getD i 0)
noncomputable def PO (z : Nat) (p : Array Nat) : Prop := p.toList.Perm (List.range z)
theorem PO.size {p : Array Nat} (h : PO z p) : p.size = z := by
  have := h.length_eq
  simpa using this
theorem PO.lt {p : Array Nat} (h : PO z p) {i : Nat} (hi : i < z) : p.getD i 0 < z := by
  have hz := h.size
  have e : p.getD i 0 = p[i]'(by omega) := by simp [Array.getD, hz, hi]
  have : p[i]'(by omega) ∈ p.toList := by simp
  have := h.mem_iff.mp this
  rw [e]
  simpa using this
theorem PO.rev {p : Array Nat} (h : PO z p) (i j : Nat) : PO z (kas_rev p i j) := ((mirror_perm p i j _).toList).trans h
theorem PO.bub {p : Array Nat} (h : PO z p) (i j : Nat) : PO z (bubble p i j) := ((bubble_perm p i j).toList).trans h
theorem getD_of {p q : Array Nat} {i j : Nat} (h : p[i]? = q[j]?) : p.getD i 0 = q.getD j 0 := by
  rw [Array.getD_eq_getD_getElem?, Array.getD_eq_getD_getElem?, h]
theorem kp_rev {p : Array Nat} {i j : Nat} (hj : j ≤ p.size) (k : Nat) : kp key (kas_rev p i j) k = if i ≤ k ∧ k < j then kp key p (i + j - 1 - k) else kp key p k := by
  have e := getElem?_mirror_all (i := i) hj k
  unfold kp
  split
  · rename_i h; rw [if_pos h] at e; exact congrArg key (getD_of (p := kas_rev p i j) e)
  · rename_i h; rw [if_neg h] at e; exact congrArg key (getD_of (p := kas_rev p i j) e)
theorem kp_bub {p : Array Nat} {src d : Nat} (hs : src < p.size) (hd : d ≤ src) (k : Nat) : kp key (bubble p src d) k = if k = src - d then kp key p src else if src - d < k ∧ k ≤ src then kp key p (k - 1) else kp key p k := by
  have e := getElem?_bubble hs d hd k
  unfold kp
  by_cases h1 : k = src - d
  · rw [if_pos h1] at e ⊢; rw [getD_of e]
  · rw [if_neg h1] at e ⊢
    by_cases h2 : src - d < k ∧ k ≤ src
    · rw [if_pos h2] at e ⊢; rw [getD_of e]
    · rw [if_neg h2] at e ⊢; rw [getD_of e]
noncomputable def Asc (key : Nat → O.α) (p : Array Nat) (n : Nat) : Prop := ∀ i j, i ≤ j → j < n → O.kle (kp key p i) (kp key p j)
noncomputable def Dsc (key : Nat → O.α) (p : Array Nat) (n : Nat) : Prop := ∀ i j, i ≤ j → j < n → O.kle (kp key p j) (kp key p i)
noncomputable def Answers (key : Nat → O.α) (z : Nat) (cmp : Nat → Nat → (Bool → Shared → Prop) → Shared → Prop) (s : Shared) : Prop := ∀ i j C, i < z → j < z → C (O.blt (key i) (key j)) s → cmp i j C s
variable {cmp : Nat → Nat → (Bool → Shared → Prop) → Shared → Prop} {s : Shared}
theorem asc_step {p : Array Nat} {n : Nat} (h : Asc key p n) (h1 : 1 ≤ n) (e : O.kle (kp key p (n - 1)) (kp key p n)) : Asc key p (n + 1) := fun i j hij hj => by
  rcases Nat.lt_or_ge j n with q | q
  · exact h i j hij q
  · have : j = n := by omega
    subst this
    rcases Nat.lt_or_ge i j with r | r
    · exact KeyOrd.kle_trans (h i (j - 1) (by omega) (by omega)) e
    · have : i = j := by omega
      subst this; exact KeyOrd.kle_refl _
theorem dsc_step {p : Array Nat} {n : Nat} (h : Dsc key p n) (h1 : 1 ≤ n) (e : O.kle (kp key p n) (kp key p (n - 1))) : Dsc key p (n + 1) := fun i j hij hj => by
  rcases Nat.lt_or_ge j n with q | q
  · exact h i j hij q
  · have : j = n := by omega
    subst this
    rcases Nat.lt_or_ge i j with r | r
    · exact KeyOrd.kle_trans e (h i (j - 1) (by omega) (by omega))
    · have : i = j := by omega
      subst this; exact KeyOrd.kle_refl _
theorem s_asc (ha : Answers key z cmp s) {p : Array Nat} (hp : PO z p) {G : Nat → Shared → Prop} : ∀ (f n : Nat), 1 ≤ n → n + f ≤ z → Asc key p n → (∀ m, n ≤ m → m ≤ n + f → Asc key p m → (m < n + f → O.klt (kp key p m) (kp key p (m - 1))) → G m s) → (kas_asc p f n).kasWp cmp G s
  | 0, n, _, _, h, k => k n (Nat.le_refl _) (Nat.le_refl _) h (by omega)
  | f + 1, n, h1, hf, h, k => by
    refine ha _ _ _ (hp.lt (by omega)) (hp.lt (by omega)) ?_
    cases e : O.blt (key (p.getD n 0)) (key (p.getD (n - 1) 0)) with
    | true => exact k n (Nat.le_refl _) (by omega) h fun _ => e
    | false =>
      exact s_asc ha hp f (n + 1) (by omega) (by omega) (asc_step h h1 e) fun m a b c d => k m (by omega) (by omega) c fun q => d (by omega)
noncomputable def EqRun (key : Nat → O.α) (p : Array Nat) (a n : Nat) : Prop := ∀ k, a ≤ k → k < n → kp key p k = kp key p (n - 1)
theorem rev_eq {p : Array Nat} {a n : Nat} (hn : n ≤ p.size) (h : EqRun key p a n) (k : Nat) : kp key (kas_rev p a n) k = kp key p k := by
  rw [kp_rev hn]
  split
  · rw [h _ (by omega) (by omega), h k (by omega) (by omega)]
  · rfl
theorem s_desc (ha : Answers key z cmp s) {G : Array Nat × Nat × Nat → Shared → Prop} : ∀ (f : Nat) (p : Array Nat) (n q : Nat), PO z p → 1 ≤ n → n + f ≤ z → q + 1 ≤ n → Dsc key p n → EqRun key p (n - (q + 1)) n →
    (∀ p' m q', PO z p' → n ≤ m → m ≤ n + f → q' + 1 ≤ m → Dsc key p' m → EqRun key p' (m - (q' + 1)) m → G (p', m, q') s) → (kas_desc f p n q).kasWp cmp G s
  | 0, p, n, q, hp, _, _, hq, h, he, k => k p n q hp (Nat.le_refl _) (Nat.le_refl _) hq h he
  | f + 1, p, n, q, hp, h1, hf, hq, h, he, k => by
    refine ha _ _ _ (hp.lt (by omega)) (hp.lt (by omega)) ?_
    have hz := hp.size
    cases e : O.blt (key (p.getD n 0)) (key (p.getD (n - 1) 0)) with
    | true =>
      have e1 : O.klt (kp key p n) (kp key p (n - 1)) := e
      have one : ∀ p' : Array Nat, EqRun key p' (n + 1 - (0 + 1)) (n + 1) := fun p' k a b => by
        have : k = n := by omega
        subst this; rfl
      simp only [if_true]
      by_cases hq0 : q > 0
      · rw [if_pos hq0]
        have er := rev_eq (by omega : n ≤ p.size) he
        have hd : Dsc key (kas_rev p (n - (q + 1)) n) (n + 1) := fun i j a b => by
          rw [er, er]; exact dsc_step h h1 (KeyOrd.kle_of_klt e1) i j a b
        exact s_desc ha f _ (n + 1) 0 (hp.rev _ _) (by omega) (by omega) (by omega) hd (one _) fun p' m q' a b c => k p' m q' a (by omega) (by omega)
      · rw [if_neg hq0]
        exact s_desc ha f _ (n + 1) 0 hp (by omega) (by omega) (by omega) (dsc_step h h1 (KeyOrd.kle_of_klt e1)) (one _) fun p' m q' a b c => k p' m q' a (by omega) (by omega)
    | false =>
      simp only [Bool.false_eq_true, if_false]
      refine ha _ _ _ (hp.lt (by omega)) (hp.lt (by omega)) ?_
      cases e2 : O.blt (key (p.getD (n - 1) 0)) (key (p.getD n 0)) with
      | true => exact k p n q hp (Nat.le_refl _) (by omega) hq h he
      | false =>
        simp only [Bool.false_eq_true, if_false]
        have eq : kp key p n = kp key p (n - 1) := O.total _ _ e e2
        refine s_desc ha f _ (n + 1) (q + 1) hp (by omega) (by omega) (by omega) (dsc_step h h1 (by rw [eq]; exact KeyOrd.kle_refl _)) (fun k a b => ?_) fun p' m q' a b c => k p' m q' a (by omega) (by omega)
        show _ = kp key p n
        rcases Nat.lt_or_ge k n with r | r
        · rw [eq]; exact he k (by omega) r
        · have : k = n := by omega
          subst this; rfl
theorem s_tail3 (ha : Answers key z cmp s) {p : Array Nat} (hp : PO z p) {G : Nat × Array Nat → Shared → Prop} {n : Nat} (h1 : 1 ≤ n) (hn : n ≤ z) (h : Dsc key p n) (k : ∀ m p', PO z p' → m ≤ z → Asc key p' m → G (m, p') s) : (kas_tail3 n z p).kasWp cmp G s := by
  unfold kas_tail3
  rw [KasT.kasWp_bind]
  refine s_asc ha (hp.rev _ _) _ _ h1 (by omega) (fun i j a b => ?_) fun m a b c _ => k m _ (hp.rev _ _) (by omega) c
  have hz := hp.size
  rw [kp_rev (by omega), kp_rev (by omega), if_pos (by omega), if_pos (by omega)]
  exact h _ _ (by omega) (by omega)
theorem s_descPart (ha : Answers key z cmp s) {p : Array Nat} (hp : PO z p) {G : Nat × Array Nat → Shared → Prop} {n : Nat} (hn : n + 1 ≤ z) (h : Dsc key p (n + 1)) (k : ∀ m p', PO z p' → m ≤ z → Asc key p' m → G (m, p') s) : (kas_descPart n z p).kasWp cmp G s := by
  unfold kas_descPart
  rw [KasT.kasWp_bind]
  refine s_desc ha _ _ _ _ hp (by omega) (by omega) (by omega) h (fun k a b => ?_) fun p' m q' hp' a b c d e => ?_
  · have : k = n := by omega
    subst this; rfl
  · have hz := hp'.size
    dsimp only
    split
    · refine s_tail3 ha (hp'.rev _ _) (by omega) (by omega) (fun i j x y => ?_) k
      have er := rev_eq (by omega : m ≤ p'.size) e
      rw [er, er]; exact d i j x y
    · exact s_tail3 ha hp' (by omega) (by omega) d k
theorem s_count (ha : Answers key z cmp s) {p : Array Nat} (hp : PO z p) {G : Nat × Array Nat → Shared → Prop} (h1 : 1 ≤ z) (k : ∀ m p', PO z p' → m ≤ z → Asc key p' m → G (m, p') s) : (kas_count z p).kasWp cmp G s := by
  unfold kas_count
  rw [KasT.kasWp_bind]
  refine s_asc ha hp _ _ (Nat.le_refl _) (by omega) (fun i j a b => ?_) fun m a b c d => ?_
  · have : i = j := by omega
    subst this; exact KeyOrd.kle_refl _
  · by_cases hm : (m == z) = true
    · rw [if_pos hm]
      exact k m p hp (by omega) c
    · rw [if_neg hm]
      have hm' : m ≠ z := by simpa using hm
      have hz := hp.size
      have lt := d (by omega)
      have fin : ∀ p', PO z p' → (∀ k, kp key p' k = kp key p k) → (∀ i, i < m → kp key p i = kp key p (m - 1)) → Dsc key p' (m + 1) := fun p' _ e1 e2 => by
        refine dsc_step (fun i j x y => ?_) a ?_
        · rw [e1, e1, e2 i (by omega), e2 j y]; exact KeyOrd.kle_refl _
        · rw [e1, e1]; exact KeyOrd.kle_of_klt lt
      by_cases h2 : m > 1
      · rw [if_pos h2]
        refine ha _ _ _ (hp.lt (by omega)) (hp.lt (by omega)) ?_
        cases e : O.blt (key (p.getD 0 0)) (key (p.getD (m - 1) 0)) with
        | true => exact k m p hp (by omega) c
        | false =>
          have e' : O.kle (kp key p (m - 1)) (kp key p 0) := e
          have all : ∀ i, i < m → kp key p i = kp key p (m - 1) := fun i hi => KeyOrd.kle_antisymm (c i (m - 1) (by omega) (by omega)) (KeyOrd.kle_trans e' (c 0 i (by omega) hi))
          exact s_descPart ha (hp.rev _ _) (by omega) (fin _ (hp.rev _ _) (rev_eq (by omega) fun i _ hi => all i hi) all) k
      · rw [if_neg h2]
        refine s_descPart ha hp (by omega) (fin p hp (fun _ => rfl) fun i hi => ?_) k
        have : i = m - 1 := by omega
        rw [this]
theorem s_place (ha : Answers key z cmp s) {p : Array Nat} (hp : PO z p) {k : Nat} (hk : k < z) {G : Nat → Shared → Prop} : ∀ (f l r : Nat), l ≤ r → r ≤ k → r - l ≤ f → (∀ i, i < l → O.kle (kp key p i) (kp key p k)) → (∀ i, r ≤ i → i < k → O.kle (kp key p k) (kp key p i)) → Asc key p k →
    (∀ m, m ≤ k → (∀ i, i < m → O.kle (kp key p i) (kp key p k)) → (∀ i, m ≤ i → i < k → O.kle (kp key p k) (kp key p i)) → G m s) → (kas_place p k f l r).kasWp cmp G s
  | 0, l, r, h1, h2, h3, a, b, c, g => g l (by omega) a fun i x y => b i (by omega) y
  | f + 1, l, r, h1, h2, h3, a, b, c, g => by
    unfold kas_place
    by_cases hlr : l ≥ r
    · rw [if_pos hlr]; exact g l (by omega) a fun i x y => b i (by omega) y
    · rw [if_neg hlr]
      refine ha _ _ _ (hp.lt hk) (hp.lt (by omega)) ?_
      cases e : O.blt (key (p.getD k 0)) (key (p.getD ((l + r) / 2) 0)) with
      | true =>
        have e' : O.klt (kp key p k) (kp key p ((l + r) / 2)) := e
        exact s_place ha hp hk f l _ (by omega) (by omega) (by omega) a (fun i x y => KeyOrd.kle_trans (KeyOrd.kle_of_klt e') (c _ _ x y)) c g
      | false =>
        have e' : O.kle (kp key p ((l + r) / 2)) (kp key p k) := e
        exact s_place ha hp hk f _ r (by omega) (by omega) (by omega) (fun i x => KeyOrd.kle_trans (c i _ (by omega) (by omega)) e') b c g
theorem s_bin (ha : Answers key z cmp s) {G : Array Nat → Shared → Prop} : ∀ (f : Nat) (p : Array Nat) (k : Nat), PO z p → k + f = z → Asc key p k → (∀ p', PO z p' → Asc key p' z → G p' s) → (kas_bin f p k).kasWp cmp G s
  | 0, p, k, hp, hk, c, g => g p hp (by rw [← hk]; exact c)
  | f + 1, p, k, hp, hk, c, g => by
    unfold kas_bin
    rw [KasT.kasWp_bind]
    have hz := hp.size
    refine s_place ha hp (by omega) k 0 k (Nat.zero_le _) (Nat.le_refl _) (by omega) (by intro i q; omega) (by intro i x y; omega) c fun m hm a b => ?_
    refine s_bin ha f _ (k + 1) (hp.bub _ _) (by omega) (fun i j x y => ?_) g
    have em : k - (k - m) = m := by omega
    rw [kp_bub (by omega) (by omega), kp_bub (by omega) (by omega), em]
    by_cases i1 : i = m
    · rw [if_pos i1]
      by_cases j1 : j = m
      · rw [if_pos j1]; exact KeyOrd.kle_refl _
      · rw [if_neg j1, if_pos (by omega)]
        exact b _ (by omega) (by omega)
    · rw [if_neg i1]
      by_cases i2 : m < i ∧ i ≤ k
      · rw [if_pos i2, if_neg (by omega), if_pos (by omega)]
        exact c _ _ (by omega) (by omega)
      · rw [if_neg i2]
        by_cases j1 : j = m
        · rw [if_pos j1]; exact a _ (by omega)
        · rw [if_neg j1]
          by_cases j2 : m < j ∧ j ≤ k
          · rw [if_pos j2]; exact c _ _ (by omega) (by omega)
          · rw [if_neg j2]; exact c _ _ (by omega) (by omega)
theorem s_sort (ha : Answers key z cmp s) {G : Array Nat → Shared → Prop} (h1 : 1 ≤ z) (g : ∀ p', PO z p' → Asc key p' z → G p' s) : (kas_sort z).kasWp cmp G s := by
  unfold kas_sort
  rw [KasT.kasWp_bind]
  refine s_count ha (show (List.toArray (List.range z)).toList.Perm (List.range z) from List.Perm.refl _) h1 fun m p' hp' hm c => ?_
  dsimp only
  split
  · refine s_bin ha _ _ _ hp' (by omega) ?_ g
    rcases Nat.lt_or_ge m 1 with q | q
    · intro i j a b
      have : i = j := by omega
      subst this; exact KeyOrd.kle_refl _
    · rw [Nat.max_eq_left q]; exact c
  · have : m = z := by omega
    subst this
    exact g p' hp' c
end
theorem str_ext {x y : Str} (h : x.cps.toList = y.cps.toList) : x = y := by
  cases x; cases y
  simp only [Array.toList_inj] at h
  subst h; rfl
theorem llt_irrefl : ∀ a, llt a a = false
  | [] => rfl
  | x :: xs => by simp [llt, llt_irrefl xs]
theorem llt_total : ∀ a b, llt a b = false → llt b a = false → a = b
  | [], [], _, _ => rfl
  | [], _ :: _, h, _ => by simp [llt] at h
  | _ :: _, [], _, h => by simp [llt] at h
  | x :: xs, y :: ys, h1, h2 => by
    unfold llt at h1 h2
    by_cases e : x = y
    · subst e
      simp only [if_true] at h1 h2
      rw [llt_total xs ys h1 h2]
    · rw [if_neg e] at h1
      rw [if_neg fun q => e q.symm] at h2
      simp only [decide_eq_false_iff_not] at h1 h2
      exact absurd (str_ext (List.le_antisymm (List.not_lt.mp h2) (List.not_lt.mp h1))) e
theorem slt_trans {x y z : Str} (h1 : x.cps.toList < y.cps.toList) (h2 : y.cps.toList < z.cps.toList) : x.cps.toList < z.cps.toList := List.lt_trans h1 h2
theorem llt_trans : ∀ a b c, llt a b = true → llt b c = true → llt a c = true
  | [], [], _, h, _ => by simp [llt] at h
  | _ :: _, [], _, h, _ => by simp [llt] at h
  | _, _ :: _, [], _, h => by simp [llt] at h
  | [], _ :: _, _ :: _, _, _ => rfl
  | x :: xs, y :: ys, z :: zs, h1, h2 => by
    unfold llt at h1 h2 ⊢
    by_cases e : x = y
    · subst e
      simp only [if_true] at h1
      by_cases e2 : x = z
      · subst e2
        simp only [if_true] at h2 ⊢
        exact llt_trans xs ys zs h1 h2
      · rw [if_neg e2] at h2 ⊢; exact h2
    · rw [if_neg e] at h1
      by_cases e2 : y = z
      · subst e2
        rw [if_neg e]; exact h1
      · rw [if_neg e2] at h2
        simp only [decide_eq_true_eq] at h1 h2
        have h3 := slt_trans h1 h2
        have : x ≠ z := fun q => by subst q; exact List.lt_irrefl _ h3
        rw [if_neg this]
        simpa using h3
theorem llt_neg (a b c : List Str) (h : llt a c = true) : llt a b = true ∨ llt b c = true := by
  by_cases h1 : llt a b = true
  · exact .inl h1
  · by_cases e : a = b
    · subst e; exact .inr h
    · have : llt b a = true := by
        cases q : llt b a with
        | true => rfl
        | false => exact absurd (llt_total a b (by simpa using h1) q) e
      exact .inr (llt_trans _ _ _ this h)
noncomputable abbrev rowOrd : KeyOrd where
  α := List Str
  blt := llt
  irrefl := llt_irrefl
  trans := llt_trans
  negTrans := llt_neg
  total := llt_total
noncomputable def RowsSorted (rs : List (List Str)) : Prop := rs.Pairwise fun a b => llt b a = false
theorem rows_uniq {rs qs : List (List Str)} (h : rs.Perm qs) (h1 : RowsSorted rs) (h2 : RowsSorted qs) : rs = qs :=
  h.eq_of_pairwise (fun a b _ _ x y => llt_total a b y x) h1 h2

section
variable {prog : Program} {w : World} {A : Around} {E : Value → Shared → Prop} {s : Shared}
theorem sort_short {a : Addr} {vs : List Value} {n : Nat} {P : PySem.Fin → Shared → Prop} (ho : s.heap.get? a = some (seqObj "list" vs.toArray n)) (hv : vs.length < 2)
    (h : P (.done (.ret .none)) { s with heap := sortedHeap s.heap a vs vs.toArray }) : wpAny (model prog w) A (Builtin.«list.sort» ⟨[.ref a], []⟩) P E s := by
  rw [list_sort_plain]
  have ha : a < s.heap.objs.size := Heap.lt_size ho
  refine wpAny_bind (listItems_at ho rfl ?_)
  refine wpAny_bind (listUpdate_at ho rfl ?_)
  obtain ⟨e1, ho1⟩ : ∃ e1, (s.heap.update a (Obj.mapSeq fun _ => #[])).get? a = some (seqObj "list" #[] e1) := ⟨_, get?_update_seq ho (fun _ => #[])⟩
  refine wpAny_bind (seqEpoch_at ho1 rfl ?_)
  refine wpAny_bind (wpAny_newTuple ?_ (by rw [sizeLine_eq]; simp; omega))
  refine wpAny_bind (wpAny_newList ?_)
  refine wpAny_holding ?_
  have ho6 : (((s.heap.update a (Obj.mapSeq fun _ => #[])).push (seqObj "tuple" vs.toArray 0)).push (seqObj "list" #[] 0)).get? a = some (seqObj "list" #[] e1) := by
    rw [Heap.get?_push_ne _ _ _ (by rw [size_push', Heap.size_update]; exact Nat.ne_of_lt (Nat.lt_succ_of_lt ha)), Heap.get?_push_ne _ _ _ (by rw [Heap.size_update]; exact Nat.ne_of_lt ha)]
    exact ho1
  show wpAny (model prog w) A _ P E { s with heap := ((s.heap.update a (Obj.mapSeq fun _ => #[])).push (seqObj "tuple" vs.toArray 0)).push (seqObj "list" #[] 0) }
  dsimp only
  have h2 : vs.toArray.size < 2 := by simpa using hv
  rw [if_pos h2, if_pos h2]
  refine wpAny_bind (wpAny_pure ?_)
  rw [StateT.run_pure]
  refine wpAny_bind (wpAny_pure ?_)
  dsimp only
  have hm : (arrOf (SortSt.mk' general' (vs.toArray.zip vs.toArray) #[] 7 none)).map (·.2) = vs.toArray := by
    show (vs.toArray.zip vs.toArray).map (·.2) = vs.toArray
    apply Array.ext (by simp)
    intro i x y
    simp
  rw [hm]
  refine wpAny_bind (seqEpoch_at ho6 rfl ?_)
  refine wpAny_bind (listUpdate_at ho6 rfl ?_ (hsz2 := by rw [sizeLine_eq]; simp; omega))
  simp only [bne_self_eq_false, Bool.false_eq_true, if_false]
  exact wpAny_pure h
theorem sorted_short {l : Addr} {vs : List Value} {Q : Value → Shared → Prop} (hl : s.heap.IsList l vs.toArray) (hv : vs.length < 2)
    (h : Q (.ref (s.heap.objs.size + 1)) { s with heap := sortedAll s.heap vs vs.toArray }) : wpAny (model prog w) A (call (.builtin "sorted") [.ref l]) Q E s := by
  refine Calls.call_function_entry kind_sorted plain_sorted entry_sorted (args_sorted1 _) ?_
  unfold Builtin.«sorted»
  refine wpAny_bind (m := checkCount "sorted" 1 1 _) (wpAny_pure ?_)
  refine wpAny_bind (collect_list hl ?_ (by rw [sizeLine_eq]; omega))
  refine wpAny_bind (wpAny_newList ?_ (by rw [sizeLine_eq]; omega))
  have hsz : ((s.heap.push (seqObj "list" #[] 0)).update s.heap.objs.size (Obj.mapSeq (· ++ vs.toArray))).objs.size = s.heap.objs.size + 1 := by
    rw [Heap.size_update, size_push']
  have hoL : (((s.heap.push (seqObj "list" #[] 0)).update s.heap.objs.size (Obj.mapSeq (· ++ vs.toArray))).push (seqObj "list" vs.toArray 0)).get? (s.heap.objs.size + 1) = some (seqObj "list" vs.toArray 0) := by
    rw [← hsz]; exact Heap.get?_push_size _ rfl
  show wpAny _ _ _ _ _ { s with heap := ((s.heap.push (seqObj "list" #[] 0)).update s.heap.objs.size (Obj.mapSeq (· ++ vs.toArray))).push (seqObj "list" vs.toArray 0) }
  rw [hsz]
  refine wpAny_bind (wpAny_holding (wpAny_call_entry slot_list_sort ⟨_, hoL, rfl⟩ entry_list_sort (sort_short hoL hv ⟨_, rfl, ?_⟩) (args_list_sort _)))
  exact wpAny_pure ⟨_, rfl, h⟩
end
section
variable {w : World} {c : Fx} {f : Fn} {m : Loc} {N : Led}
theorem p_sortedRows {l : Addr} {vs : List Value} {n : Nat} {rs : List (List Str)} {Q : Value → Loc → Led → Prop} (h1 : (l, lst vs n) ∈ N) (R1 : RowsAt N vs rs) (h64 : rs.length < 64) (hu : c.un + 10 < cLine)
    (h : ∀ D vs' k rs', (∀ p ∈ N, p.1 < D) → RowsAt N vs' rs' → rs'.Perm rs → RowsSorted rs' → Q (.ref D) m ((D, lst vs' k) :: N)) : Sat w c f (call (.builtin "sorted") [.ref l]) m N Q := fun s M _ F X O hR => by
  by_cases h2 : vs.length < 2
  · obtain ⟨e, he⟩ := sortedAll_at s.heap vs vs.toArray
    refine sorted_short (ofNews X h1) h2 (hR _ _ _ _ _ (h (s.heap.objs.size + 1) vs e rs (fun p hp => Nat.lt_succ_of_lt (Heap.lt_size (X p (List.mem_append_left _ hp)).1)) R1 (List.Perm.refl _) ?_) (F.kept fun _ _ => sortedAll_old)
      (X.kept_cons F (fun _ _ => sortedAll_old) (Nat.le_succ _) he) (O.cons fun p hp => Nat.lt_succ_of_lt (Heap.lt_size (X p hp).1)))
    have := R1.len
    match rs with
    | [] => exact List.Pairwise.nil
    | [_] => simp [RowsSorted]
    | _ :: _ :: _ => simp at this; omega
  · have hl := R1.len
    refine kas_sorted (T := .type "list") F X (ofNews X h1) (by omega) (by omega) (fun h' F' X' v hv => ?_) (by decide +kernel) fun D e1 h' F' X' lt => ?_
    · obtain ⟨i, hi, e⟩ := List.mem_iff_getElem.mp hv
      obtain ⟨a, us, k, r, e1, _, m1, _⟩ := R1.at hi
      rw [List.getElem?_eq_getElem hi, e] at e1
      cases e1
      intro A Q E s' k' q
      have g := k' _ _ (X' _ (List.mem_append_left _ m1)).1
      exact wpAny_typeOf ⟨_, g, rfl⟩ q
    · refine s_sort (O := rowOrd) (key := fun i => rs.getD i []) (z := vs.length) (fun i j C hi hj hC => ?_) (by omega) fun p hp ha => ?_
      · obtain ⟨a, us, k, r, e1, f1, m1, s1⟩ := R1.at hi
        obtain ⟨b, ks, k', q, e2, f2, m2, s2⟩ := R1.at hj
        unfold kas_ask
        rw [List.getD_eq_getElem?_getD, List.getD_eq_getElem?_getD, e1, e2]
        have X1 : News c.h₀ c.L h' (N ++ M) := fun p hp => X' p (.tail _ hp)
        refine keyLt_lists (ofNews X1 m1) (ofNews X1 m2) s1 s2 (by show c.un + 1 + 1 < cLine; omega) ?_
        have q1 : rs.getD i [] = r := by rw [List.getD_eq_getElem?_getD, f1]; rfl
        have q2 : rs.getD j [] = q := by rw [List.getD_eq_getElem?_getD, f2]; rfl
        show C (llt r q) _
        rw [← q1, ← q2]; exact hC
      · have hz := hp.size
        refine KasFin.intro F' X' (UpdF.head fun q hq => Nat.ne_of_lt (lt q hq)) fun h'' k F'' X'' => ?_
        refine hR _ m _ _ s.toks (h D (p.toList.map fun i => vs.getD i Value.none) k (p.toList.map fun i => rs.getD i []) (fun q hq => lt q (List.mem_append_left _ hq)) ?_ ?_ ?_) F'' X'' (O.cons lt)
        · have : ∀ l : List Nat, (∀ i ∈ l, i < vs.length) → RowsAt N (l.map fun i => vs.getD i Value.none) (l.map fun i => rs.getD i []) := by
            intro l
            induction l with
            | nil => intro _; exact .nil
            | cons i l ih =>
              intro hl
              obtain ⟨a, us, k, r, e1, f1, m1, s1⟩ := R1.at (hl i (.head _))
              rw [List.map_cons, List.map_cons, List.getD_eq_getElem?_getD, List.getD_eq_getElem?_getD, e1, f1]
              exact .cons m1 s1 (ih fun j hj => hl j (.tail _ hj))
          exact this _ fun i hi => by simpa using hp.mem_iff.mp hi
        · have e := (hp.map fun i => rs.getD i [])
          refine e.trans (List.Perm.of_eq ?_)
          apply List.ext_getElem?
          intro i
          rw [List.getElem?_map]
          by_cases hi : i < vs.length
          · rw [List.getElem?_range hi]
            have : i < rs.length := by omega
            simp [this]
          · rw [List.getElem?_eq_none (by simp; omega), List.getElem?_eq_none (by omega)]; rfl
        · refine List.pairwise_iff_getElem.mpr fun i j hi hj hij => ?_
          simp only [List.length_map, Array.length_toList] at hi hj
          have := ha i j (by omega) (by omega)
          unfold kp at this
          have e1 : p.getD i 0 = p.toList[i]'(by simpa using hi) := by simp [Array.getD, hi]
          have e2 : p.getD j 0 = p.toList[j]'(by simpa using hj) := by simp [Array.getD, hj]
          rw [e1, e2] at this
          rw [List.getElem_map, List.getElem_map]
          exact this
end
-- the plain side: masks
noncomputable def ins (r : List Nat) (t : Nat) : List Nat := if t ∈ r then r else r ++ [t]
noncomputable def uni (a b : List Nat) : List Nat := (a ++ b).foldl ins []
noncomputable def crs1 (b : List Nat) (r : List Nat) (l : Nat) : List Nat := b.foldl (fun r t => ins r (l ||| t)) r
theorem ins_mem {r : List Nat} {t x : Nat} : x ∈ ins r t ↔ x ∈ r ∨ x = t := by
  unfold ins
  split
  · rename_i h; exact ⟨.inl, fun q => q.elim id fun e => e ▸ h⟩
  · simp
theorem ins_nodup {r : List Nat} {t : Nat} (h : r.Nodup) : (ins r t).Nodup := by
  unfold ins
  split
  · exact h
  · rename_i hx
    exact List.nodup_append.mpr ⟨h, by simp, fun a ha b hb e => hx (by have : b = t := by simpa using hb
                                                                       rw [← this, ← e]; exact ha)⟩
noncomputable def crs (a b : List Nat) : List Nat := a.foldl (crs1 b) []
noncomputable def joi (a : List Nat) : Nat := a.foldl (· ||| ·) 0
noncomputable def mems (t : Nat) : List Nat := (List.range 4).filter fun i => t.testBit i
noncomputable def byDeg (row : List Nat) : List Nat := [1, 2, 3, 4].flatMap fun d => row.filter fun t => (mems t).length == d
theorem and_nat (a b : Nat) : Builtin.bitAnd (a : Int) (b : Int) = ((a &&& b : Nat) : Int) := by
  unfold Builtin.bitAnd
  rw [decide_eq_true (by omega : (0 : Int) ≤ a), decide_eq_true (by omega : (0 : Int) ≤ b)]
  simp
theorem or_nat (a b : Nat) : Builtin.bitOr (a : Int) (b : Int) = ((a ||| b : Nat) : Int) := by
  unfold Builtin.bitOr Builtin.bitAnd Builtin.bitNot
  rw [decide_eq_false (by omega : ¬ (0 : Int) ≤ -(a : Int) - 1), decide_eq_false (by omega : ¬ (0 : Int) ≤ -(b : Int) - 1)]
  have e1 : (-(-(a : Int) - 1) - 1).toNat = a := by omega
  have e2 : (-(-(b : Int) - 1) - 1).toNat = b := by omega
  simp only [e1, e2]
  omega
theorem shr_nat (a : Nat) : (a : Int).fdiv (2 ^ (1 : Int).toNat) = ((a / 2 : Nat) : Int) := by
  have : (2 : Int) ^ (1 : Int).toNat = 2 := rfl
  rw [this, Int.fdiv_eq_ediv_of_nonneg _ (by decide)]
  omega
noncomputable abbrev zs (ns : List Nat) : List Int := ns.map (fun n : Nat => (n : Int))
theorem any_ints (ns : List Nat) (k : Nat) : ((zs ns).any (· == (k : Int))) = decide (k ∈ ns) := by
  rw [Bool.eq_iff_iff]
  simp only [List.any_map, List.any_eq_true, Function.comp, beq_iff_eq, decide_eq_true_eq]
  constructor
  · rintro ⟨x, hx, e⟩
    have : x = k := by omega
    exact this ▸ hx
  · intro h; exact ⟨k, h, rfl⟩
theorem small16 {P : Nat → Prop} [DecidablePred P] (h : ((List.range 16).all fun t => decide (P t)) = true) : ∀ t, t < 16 → P t := fun t ht => of_decide_eq_true (List.all_eq_true.mp h t (List.mem_range.mpr ht))
theorem bit_step : ∀ t, t < 16 → ∀ p, p < 5 → ((((t >>> p) &&& 1 : Nat) != 0) = t.testBit p) := fun t ht p hp => by
  have h : ((List.range 16).all fun t => (List.range 5).all fun p => ((((t >>> p) &&& 1 : Nat) != 0) == t.testBit p)) = true := by decide +kernel
  have := List.all_eq_true.mp (List.all_eq_true.mp h t (List.mem_range.mpr ht)) p (List.mem_range.mpr hp)
  exact eq_of_beq this
theorem mems_end : ∀ t, t < 16 → ∀ p, p < 5 → t >>> p = 0 → ((List.range p).filter fun i => t.testBit i) = mems t := fun t ht p hp h0 => by
  have h : ((List.range 16).all fun t => (List.range 5).all fun p => !(t >>> p == 0) || (((List.range p).filter fun i => t.testBit i) == mems t)) = true := by decide +kernel
  have := List.all_eq_true.mp (List.all_eq_true.mp h t (List.mem_range.mpr ht)) p (List.mem_range.mpr hp)
  rw [h0] at this
  exact eq_of_beq (by simpa using this)
theorem shr_four : ∀ t, t < 16 → t >>> 4 = 0 := small16 (by decide +kernel)
theorem deg_small : ∀ t, t < 16 → 0 < t → (mems t).length ∈ [1, 2, 3, 4] := fun t ht => small16 (P := fun t => 0 < t → (mems t).length ∈ [1, 2, 3, 4]) (by decide +kernel) t ht
noncomputable def Small (row : List Nat) : Prop := ∀ t ∈ row, 0 < t ∧ t < 16
theorem uni_go (xs r : List Nat) (P : Nat → Prop) (h : ∀ t ∈ xs, P t) (hr : ∀ t ∈ r, P t) : ∀ t ∈ xs.foldl ins r, P t := by
  induction xs generalizing r with
  | nil => exact hr
  | cons x xs ih => exact ih _ (fun t ht => h t (.tail _ ht)) fun t ht => (ins_mem.mp ht).elim (hr t) fun e => e ▸ h x (.head _)
theorem uni_small {a b : List Nat} (ha : Small a) (hb : Small b) : Small (uni a b) := uni_go _ _ _ (fun t ht => (List.mem_append.mp ht).elim (ha t) (hb t)) fun t ht => nomatch ht
theorem or_small {a b : Nat} (ha : 0 < a ∧ a < 16) (hb : b < 16) : 0 < a ||| b ∧ a ||| b < 16 :=
  ⟨Nat.lt_of_lt_of_le ha.1 Nat.left_le_or, Nat.or_lt_two_pow (n := 4) ha.2 hb⟩
theorem crs1_go (b r : List Nat) (l : Nat) (P : Nat → Prop) (h : ∀ t ∈ b, P (l ||| t)) (hr : ∀ t ∈ r, P t) : ∀ t ∈ crs1 b r l, P t := by
  unfold crs1
  induction b generalizing r with
  | nil => exact hr
  | cons x xs ih => exact ih _ (fun t ht => h t (.tail _ ht)) fun t ht => (ins_mem.mp ht).elim (hr t) fun e => e ▸ h x (.head _)
theorem crs_go (a b r : List Nat) (P : Nat → Prop) (h : ∀ l ∈ a, ∀ t ∈ b, P (l ||| t)) (hr : ∀ t ∈ r, P t) : ∀ t ∈ a.foldl (crs1 b) r, P t := by
  induction a generalizing r with
  | nil => exact hr
  | cons x xs ih => exact ih _ (fun l hl => h l (.tail _ hl)) (crs1_go b r x P (h x (.head _)) hr)
theorem crs_small {a b : List Nat} (ha : Small a) (hb : ∀ t ∈ b, t < 16) : Small (crs a b) := crs_go a b [] _ (fun l hl t ht => or_small (ha l hl) (hb t ht)) fun t ht => nomatch ht
-- no mask twice: a row is short
theorem nodup_le : ∀ (n : Nat) (l : List Nat), l.Nodup → (∀ t ∈ l, t < n) → l.length ≤ n
  | 0, l, _, h => by
    cases l with
    | nil => exact Nat.le_refl _
    | cons x _ => exact absurd (h x (.head _)) (Nat.not_lt_zero _)
  | n + 1, l, hn, h => by
    have := nodup_le n (l.erase n) (hn.erase n) fun t ht => by
      have h1 := h t (List.mem_of_mem_erase ht)
      have h2 := (hn.mem_erase_iff.mp ht).1
      omega
    have h3 : l.length ≤ (l.erase n).length + 1 := by rw [List.length_erase]; split <;> omega
    omega
theorem nodup_small {row : List Nat} (h : row.Nodup) (hs : ∀ t ∈ row, t < 16) : row.length ≤ 16 := nodup_le 16 row h hs
theorem foldl_ins_nodup (xs r : List Nat) (hr : r.Nodup) : (xs.foldl ins r).Nodup := by
  induction xs generalizing r with
  | nil => exact hr
  | cons x xs ih => exact ih _ (ins_nodup hr)
theorem uni_nodup (a b : List Nat) : (uni a b).Nodup := foldl_ins_nodup _ _ List.nodup_nil
theorem crs1_nodup (b r : List Nat) (l : Nat) (hr : r.Nodup) : (crs1 b r l).Nodup := by
  unfold crs1
  induction b generalizing r with
  | nil => exact hr
  | cons x xs ih => exact ih _ (ins_nodup hr)
theorem crs_nodup (a b : List Nat) : (crs a b).Nodup := by
  have : ∀ (a r : List Nat), r.Nodup → (a.foldl (crs1 b) r).Nodup := by
    intro a
    induction a with
    | nil => intro r h; exact h
    | cons x xs ih => intro r h; exact ih _ (crs1_nodup b r x h)
  exact this a [] List.nodup_nil
theorem deg_row {row : List Nat} (h : Small row) : (byDeg row).length = row.length := by
  unfold byDeg
  induction row with
  | nil => rfl
  | cons x xs ih =>
    have ih := ih fun t ht => h t (.tail _ ht)
    have := deg_small x (h x (.head _)).2 (h x (.head _)).1
    simp only [List.mem_cons, List.not_mem_nil, or_false] at this
    simp only [List.flatMap_cons, List.flatMap_nil, List.append_nil, List.length_append, List.filter_cons, List.length_cons] at ih ⊢
    rcases this with e | e | e | e <;> simp only [e] <;> simp <;> omega
/-- rows found up to a degree -/
noncomputable def upTo (row : List Nat) (d : Nat) : List Nat := (List.range' 1 d).flatMap fun d => row.filter fun t => (mems t).length == d
theorem upTo_four (row : List Nat) : upTo row 4 = byDeg row := rfl
theorem upTo_succ (row : List Nat) (d : Nat) : upTo row (d + 1) = upTo row d ++ row.filter fun t => (mems t).length == d + 1 := by
  unfold upTo
  rw [List.range'_concat]
  simp [Nat.add_comm]
theorem upTo_le {row : List Nat} {d : Nat} (hd : d ≤ 4) (h : Small row) (he : row.length ≤ (upTo row d).length) : upTo row d = byDeg row := by
  have hl := deg_row h
  rw [← upTo_four] at hl ⊢
  have step : ∀ j, d ≤ j → j ≤ 4 → ∃ t, upTo row j = upTo row d ++ t := by
    intro j h1 h2
    induction j with
    | zero => exact ⟨[], by have : d = 0 := by omega
                            subst this; simp⟩
    | succ j ih =>
      rcases Nat.lt_or_ge d (j + 1) with q | q
      · obtain ⟨t, e⟩ := ih (by omega) (by omega)
        exact ⟨_, by rw [upTo_succ, e, List.append_assoc]⟩
      · have : d = j + 1 := by omega
        subst this
        exact ⟨[], by simp⟩
  obtain ⟨t, e⟩ := step 4 hd (Nat.le_refl _)
  rw [e] at hl ⊢
  have : t.length = 0 := by rw [List.length_append] at hl; omega
  rw [List.length_eq_zero_iff.mp this, List.append_nil]
noncomputable def SymAt (N : Led) (v : Value) (nm : Str) : Prop := ∃ x dx es n t1 t2, v = .ref x ∧ (x, instObj 99 dx) ∈ N ∧ (dx, dictOf es n) ∈ N ∧ Flds es fsSymbol [.str (s "symbol") t1, .str nm t2, .none]
noncomputable def CallAt (N : Led) (v : Value) (op : Str) (args : List Value) : Prop := ∃ x dx es n t1 il k tv ox, v = .ref x ∧ (x, instObj 121 dx) ∈ N ∧ (dx, dictOf es n) ∈ N ∧ Flds es fsCall [.str (s "language") t1, .ref il, .ref tv, .none, .none] ∧ (il, lst (ox :: args) k) ∈ N ∧ SymAt N ox op
noncomputable def VecAt (N : Led) (v : Value) (z : Int) : Prop := ∃ x dx es n t1 il k tp u1 u2, v = .ref x ∧ (x, instObj 78 dx) ∈ N ∧ (dx, dictOf es n) ∈ N ∧ Flds es fsVector [.str (s "double") t1, .ref il, .none, .bool false, .bool false] ∧ (il, lst [.ref tp] k) ∈ N ∧ (tp, tup [.int z u1, .int 1 u2]) ∈ N
noncomputable def Sub (N N' : Led) : Prop := ∀ p ∈ N, p ∈ N'
theorem Sub.refl (N : Led) : Sub N N := fun _ h => h
theorem Sub.trans {N N' N'' : Led} (h : Sub N N') (h' : Sub N' N'') : Sub N N'' := fun p q => h' p (h p q)
theorem Sub.one {N N' : Led} {p : Addr × Obj} (h : Sub N N') : Sub N (p :: N') := fun q hq => .tail _ (h q hq)
theorem SymAt.sub {N N' : Led} {v : Value} {nm : Str} (h : SymAt N v nm) (k : Sub N N') : SymAt N' v nm := let ⟨x, dx, es, n, t1, t2, a, b, c, d⟩ := h; ⟨x, dx, es, n, t1, t2, a, k _ b, k _ c, d⟩
theorem CallAt.sub {N N' : Led} {v : Value} {op : Str} {args : List Value} (h : CallAt N v op args) (k : Sub N N') : CallAt N' v op args := let ⟨x, dx, es, n, t1, il, kk, tv, ox, a, b, c, d, e, f⟩ := h; ⟨x, dx, es, n, t1, il, kk, tv, ox, a, k _ b, k _ c, d, k _ e, f.sub k⟩
theorem VecAt.sub {N N' : Led} {v : Value} {z : Int} (h : VecAt N v z) (k : Sub N N') : VecAt N' v z := let ⟨x, dx, es, n, t1, il, kk, tp, u1, u2, a, b, c, d, e, f⟩ := h; ⟨x, dx, es, n, t1, il, kk, tp, u1, u2, a, k _ b, k _ c, d, k _ e, k _ f⟩
section
variable {w : World} {c : Fx} {f : Fn} {m : Loc} {N : Led}
theorem g_Sym_kind {v : Value} {nm : Str} {x : Bool} {Q : Value → Loc → Led → Prop} (hc : c.Ok w) (hs : SymAt N v nm) (h : ∀ t, Q (.str (s "symbol") t) m N) : Sat w c f (getAttr v (s "kind") x) m N Q := by
  obtain ⟨x, dx, es, n, t1, t2, rfl, a, b, d⟩ := hs
  exact sat_get hc (aSymbol_kind _) 0 a b d ndSymbol rfl rfl rfl (h _)
theorem g_Sym_name {v : Value} {nm : Str} {x : Bool} {Q : Value → Loc → Led → Prop} (hc : c.Ok w) (hs : SymAt N v nm) (h : ∀ t, Q (.str nm t) m N) : Sat w c f (getAttr v (s "name") x) m N Q := by
  obtain ⟨x, dx, es, n, t1, t2, rfl, a, b, d⟩ := hs
  exact sat_get hc (aSymbol_name _) 1 a b d ndSymbol rfl rfl rfl (h _)
theorem g_Call_kind {v : Value} {op : Str} {args : List Value} {x : Bool} {Q : Value → Loc → Led → Prop} (hc : c.Ok w) (hs : CallAt N v op args) (h : ∀ t, Q (.str (s "language") t) m N) : Sat w c f (getAttr v (s "kind") x) m N Q := by
  obtain ⟨x, dx, es, n, t1, il, kk, tv, ox, rfl, a, b, d, e, g⟩ := hs
  exact sat_get hc (aCall_kind _) 0 a b d ndCall rfl rfl rfl (h _)
theorem g_Call_items {v : Value} {op : Str} {args : List Value} {x : Bool} {Q : Value → Loc → Led → Prop} (hc : c.Ok w) (hs : CallAt N v op args) (h : ∀ il ox k, (il, lst (ox :: args) k) ∈ N → SymAt N ox op → Q (.ref il) m N) : Sat w c f (getAttr v (s "items") x) m N Q := by
  obtain ⟨x, dx, es, n, t1, il, kk, tv, ox, rfl, a, b, d, e, g⟩ := hs
  exact sat_get hc (aCall_items _) 1 a b d ndCall rfl rfl rfl (h _ _ _ e g)
theorem g_Vec_kind {v : Value} {z : Int} {x : Bool} {Q : Value → Loc → Led → Prop} (hc : c.Ok w) (hs : VecAt N v z) (h : ∀ t, Q (.str (s "double") t) m N) : Sat w c f (getAttr v (s "kind") x) m N Q := by
  obtain ⟨x, dx, es, n, t1, il, kk, tp, u1, u2, rfl, a, b, d, e, g⟩ := hs
  exact sat_get hc (aVector_kind _) 0 a b d ndVector rfl rfl rfl (h _)
theorem g_Vec_items {v : Value} {z : Int} {x : Bool} {Q : Value → Loc → Led → Prop} (hc : c.Ok w) (hs : VecAt N v z) (h : ∀ il tp u1 u2 k, (il, lst [.ref tp] k) ∈ N → (tp, tup [.int z u1, .int 1 u2]) ∈ N → Q (.ref il) m N) : Sat w c f (getAttr v (s "items") x) m N Q := by
  obtain ⟨x, dx, es, n, t1, il, kk, tp, u1, u2, rfl, a, b, d, e, g⟩ := hs
  exact sat_get hc (aVector_items _) 1 a b d ndVector rfl rfl rfl (h _ _ _ _ _ e g)
theorem i_Sym_Sym {v : Value} {nm : Str} {Q : Value → Loc → Led → Prop} (hc : c.Ok w) (hs : SymAt N v nm) (h : Q (.bool true) m N) : Sat w c f (call (.builtin "isinstance") [v, .ref 99]) m N Q := by
  obtain ⟨x, dx, es, n, t1, t2, rfl, a, b, d⟩ := hs
  exact p_isi hc (isi99 _) a b h
theorem i_Sym_Call {v : Value} {nm : Str} {Q : Value → Loc → Led → Prop} (hc : c.Ok w) (hs : SymAt N v nm) (h : Q (.bool false) m N) : Sat w c f (call (.builtin "isinstance") [v, .ref 121]) m N Q := by
  obtain ⟨x, dx, es, n, t1, t2, rfl, a, b, d⟩ := hs
  exact p_isn hc (isn99_121 _) a b h
theorem i_Sym_Vec {v : Value} {nm : Str} {Q : Value → Loc → Led → Prop} (hc : c.Ok w) (hs : SymAt N v nm) (h : Q (.bool false) m N) : Sat w c f (call (.builtin "isinstance") [v, .ref 78]) m N Q := by
  obtain ⟨x, dx, es, n, t1, t2, rfl, a, b, d⟩ := hs
  exact p_isn hc (isn99_78 _) a b h
theorem i_Call_Call {v : Value} {op : Str} {args : List Value} {Q : Value → Loc → Led → Prop} (hc : c.Ok w) (hs : CallAt N v op args) (h : Q (.bool true) m N) : Sat w c f (call (.builtin "isinstance") [v, .ref 121]) m N Q := by
  obtain ⟨x, dx, es, n, t1, il, kk, tv, ox, rfl, a, b, d, e, g⟩ := hs
  exact p_isi hc (isi121 _) a b h
theorem i_Call_Sym {v : Value} {op : Str} {args : List Value} {Q : Value → Loc → Led → Prop} (hc : c.Ok w) (hs : CallAt N v op args) (h : Q (.bool false) m N) : Sat w c f (call (.builtin "isinstance") [v, .ref 99]) m N Q := by
  obtain ⟨x, dx, es, n, t1, il, kk, tv, ox, rfl, a, b, d, e, g⟩ := hs
  exact p_isn hc (isn121_99 _) a b h
theorem i_Vec_Call {v : Value} {z : Int} {Q : Value → Loc → Led → Prop} (hc : c.Ok w) (hs : VecAt N v z) (h : Q (.bool false) m N) : Sat w c f (call (.builtin "isinstance") [v, .ref 121]) m N Q := by
  obtain ⟨x, dx, es, n, t1, il, kk, tp, u1, u2, rfl, a, b, d, e, g⟩ := hs
  exact p_isn hc (isn78_121 _) a b h
theorem p_inN {l : Addr} {vs : List Value} {n : Nat} {k : Nat} {t : Tok} {ns : List Nat} {Q : Value → Loc → Led → Prop} (hm : (l, lst vs n) ∈ N) (hi : IntsAre vs (zs ns)) (h : Q (.bool (decide (k ∈ ns))) m N) : Sat w c f (compareOp .In (.int (k : Int) t) (.ref l)) m N Q :=
  p_inL hm hi (by rw [any_ints]; exact h)
theorem p_ninN {l : Addr} {vs : List Value} {n : Nat} {k : Nat} {t : Tok} {ns : List Nat} {Q : Value → Loc → Led → Prop} (hm : (l, lst vs n) ∈ N) (hi : IntsAre vs (zs ns)) (h : Q (.bool (!decide (k ∈ ns))) m N) : Sat w c f (compareOp .NotIn (.int (k : Int) t) (.ref l)) m N Q :=
  p_ninL hm hi (by rw [any_ints]; exact h)
theorem p_lenT {l : Addr} {vs : List Value} {Q : Value → Loc → Led → Prop} (hm : (l, tup vs) ∈ N) (hz : vs.length ≤ 16384) (h : ∀ t, Q (.int vs.length t) m N) : Sat w c f (call (.builtin "len") [.ref l]) m N Q := fun _ M _ F X O hR =>
  PyProof.Rows.len_tuple (items := vs.toArray) (ofNewsT X hm) (by simp; omega) (hR _ _ _ _ _ (by simpa using h _) F X O)
theorem upd_last {a : Addr} {o o' : Obj} {N : Led} (O : ∀ p ∈ N, p.1 ≠ a) : Upd a o o' (N ++ [(a, o)]) (N ++ [(a, o')]) := by
  induction N with
  | nil => exact .head fun _ h => nomatch h
  | cons p N ih => exact .tail (O p (.head _)) (ih fun q hq => O q (.tail _ hq))
theorem off_one {a : Addr} {o : Obj} {N : Led} (O : ∀ p ∈ N, p.1 ≠ a) : Off N [(a, o)] := fun p hp q hq => by
  rcases List.mem_cons.mp hq with rfl | hq
  · exact O p hp
  · cases hq
theorem off_of {a : Addr} {o : Obj} {N : Led} (O : Off N [(a, o)]) : ∀ p ∈ N, p.1 ≠ a := fun p hp => O p hp _ (.head _)
theorem p_notB {b : Bool} {Q : Value → Loc → Led → Prop} (h : Q (.bool (!b)) m N) : Sat w c f (unaryOp .Not (.bool b)) m N Q := fun _ M _ F X O hR => PyProof.Rows.not_of (wpAny_truthy_bool (hR _ _ _ _ _ h F X O))
theorem p_iadd {a b : Int} {t u : Tok} {Q : Value → Loc → Led → Prop} (h : ∀ t, Q (.int (a + b) t) m N) : Sat w c f (inplaceOp .Add (.int a t) (.int b u)) m N Q := fun _ M _ F X O hR => PyProof.Rows.iadd_int (hR _ _ _ _ _ (h _) F X O)
theorem br_t {p : Prop} [Decidable p] {X Y : Prop} (hp : p) (h : X) : if p then X else Y := by rw [if_pos hp]; exact h
theorem br_f {p : Prop} [Decidable p] {X Y : Prop} (hp : ¬ p) (h : Y) : if p then X else Y := by rw [if_neg hp]; exact h
theorem br_tt {X Y : Prop} (h : X) : if true = true then X else Y := h
theorem br_ff {X Y : Prop} (h : Y) : if false = true then X else Y := h
theorem cmpB {b : Bool} {Q : Bool → Prop} (h : Q b) : ∃ b', Value.bool b = .bool b' ∧ Q b' := ⟨b, rfl, h⟩
end
inductive LkAt : List Str → List (Option Value) → Str → Value → Prop
  | zero {x : Str} {ks : List Str} {v : Value} {vs : List (Option Value)} : LkAt (x :: ks) (some v :: vs) x v
  | succ {k x : Str} {ks : List Str} {o : Option Value} {v : Value} {vs : List (Option Value)} : LkAt ks vs x v → LkAt (k :: ks) (o :: vs) x v
inductive LkPut : List Str → List (Option Value) → Str → Value → List (Option Value) → Prop
  | zero {x : Str} {ks : List Str} {o : Option Value} {v : Value} {vs : List (Option Value)} : LkPut (x :: ks) (o :: vs) x v (some v :: vs)
  | succ {k x : Str} {ks : List Str} {o : Option Value} {v : Value} {vs vs' : List (Option Value)} : LkPut ks vs x v vs' → LkPut (k :: ks) (o :: vs) x v (o :: vs')
theorem LkAt.idx {ks : List Str} {vs : List (Option Value)} {x : Str} {v : Value} (h : LkAt ks vs x v) : ∃ i : Nat, ks[i]? = some x ∧ vs[i]? = some (some v) := by
  induction h with
  | zero => exact ⟨0, rfl, rfl⟩
  | succ _ ih => obtain ⟨i, a, b⟩ := ih; exact ⟨i + 1, a, b⟩
theorem LkPut.idx {ks : List Str} {vs vs' : List (Option Value)} {x : Str} {v : Value} (h : LkPut ks vs x v vs') : ∃ i : Nat, ks[i]? = some x ∧ i < vs.length ∧ vs' = vs.set i (some v) := by
  induction h with
  | zero => exact ⟨0, rfl, by simp, rfl⟩
  | succ _ ih => obtain ⟨i, a, b, c⟩ := ih; exact ⟨i + 1, a, by simpa using b, by rw [c]; rfl⟩
section
variable {w : World} {c : Fx} {f : Fn} {m : Loc} {N : Led} {ks gs : List Str} {vs vs' : List (Option Value)} {x : Str} {v : Value} {pos : Pos}
theorem sat_ldA {Q : Value → Loc → Led → Prop} (G : FnG f ks gs) (e : LkAt ks vs x v) (h : Q v (lk ks vs) N) : Sat w c f (eval (.Name x pos) (c.env f)) (lk ks vs) N Q :=
  let ⟨i, a, b⟩ := e.idx; sat_ldI G i a b h
theorem sat_lnA {Q : Value → Loc → Led → Prop} (G : FnG f ks gs) (e : LkAt ks vs x v) (h : Q v (lk ks vs) N) : Sat w c f (loadName (c.env f) x) (lk ks vs) N Q :=
  let ⟨i, a, b⟩ := e.idx; sat_lnI G i a b h
theorem sat_stA {Q : Unit → Loc → Led → Prop} (G : FnG f ks gs) (e : LkPut ks vs x v vs') (h : Q () (lk ks vs') N) : Sat w c f (storeName (c.env f) x v) (lk ks vs) N Q :=
  let ⟨i, a, b, d⟩ := e.idx; sat_stI G i a b (d ▸ h)
noncomputable def GK (P : Params) (x : Str) (a : Addr) : Prop := nsIn (KF P) mainGlobals x = some (some (.ref a)) ∧ keepIn (KF P) (.ref a) = true
theorem sat_glH {a : Addr} {Q : Value → Loc → Led → Prop} (hc : c.Ok w) (e : GK w.params x a) (G : FnG f ks gs) (hx : x ∈ gs) (h : Q (.ref a) m N) : Sat w c f (eval (.Name x pos) (c.env f)) m N Q := sat_gl hc e.1 G hx h
theorem sat_cH {p0 pos : Pos} {e : Expr} {rest : List Expr} {a : Addr} {Q : Value → Loc → Led → Prop} (hc : c.Ok w) (eb : GK w.params x a) (G : FnG f ks gs) (hx : x ∈ gs)
    (h : Sat w c f (spliced (backTo pos (starEach (e :: rest) (c.env f)))) m N fun vs m₂ N₂ => Sat w c f (call (.ref a) vs) m₂ N₂ Q)
    (hx' : eval ((Expr.Name x p0).Call (e :: rest) [] pos) (c.env f) = (do let fv ← eval (.Name x p0) (c.env f); callWith pos fv [] (backTo pos (starEach (e :: rest) (c.env f))) (backToKw pos (keywordEach [] (c.env f)))))
    (he : starEach (e :: rest) (c.env f) = (false, eval e (c.env f)) :: starEach rest (c.env f)) (hp : (backTo pos (starEach rest (c.env f))).any (·.1) = false) :
    Sat w c f (eval ((Expr.Name x p0).Call (e :: rest) [] pos) (c.env f)) m N Q := sat_cG hc eb.1 eb.2 G hx h hx' he hp
end
theorem h_number (P : Params) : GK P (s "number") 133 := ⟨gnumber P, knumber P⟩
theorem h_call_of (P : Params) : GK P (s "call_of") 140 := ⟨gcall_of P, kcall_of P⟩
theorem h_same_kernel (P : Params) : GK P (s "same_kernel") 182 := ⟨gsame_kernel P, ksame_kernel P⟩
theorem h_same_code (P : Params) : GK P (s "same_code") 203 := ⟨gsame_code P, ksame_code P⟩
theorem h_called_name (P : Params) : GK P (s "called_name") 259 := ⟨gcalled_name P, kcalled_name P⟩
theorem h_is_formula_call (P : Params) : GK P (s "is_formula_call") 266 := ⟨gis_formula_call P, kis_formula_call P⟩
theorem h_formula_parts (P : Params) : GK P (s "formula_parts") 273 := ⟨gformula_parts P, kformula_parts P⟩
theorem h_constant_whole (P : Params) : GK P (s "constant_whole") 280 := ⟨gconstant_whole P, kconstant_whole P⟩
theorem h_union (P : Params) : GK P (s "union") 287 := ⟨gunion P, kunion P⟩
theorem h_crossed (P : Params) : GK P (s "crossed") 294 := ⟨gcrossed P, kcrossed P⟩
theorem h_joined (P : Params) : GK P (s "joined") 301 := ⟨gjoined P, kjoined P⟩
theorem h_members (P : Params) : GK P (s "members") 308 := ⟨gmembers P, kmembers P⟩
theorem h_by_degree (P : Params) : GK P (s "by_degree") 315 := ⟨gby_degree P, kby_degree P⟩
theorem h_expand (P : Params) : GK P (s "expand") 389 := ⟨gexpand P, kexpand P⟩
theorem h_term_language (P : Params) : GK P (s "term_language") 396 := ⟨gterm_language P, kterm_language P⟩
theorem h_right_side (P : Params) : GK P (s "right_side") 401 := ⟨gright_side P, kright_side P⟩
theorem h_formula_of (P : Params) : GK P (s "formula_of") 408 := ⟨gformula_of P, kformula_of P⟩
theorem h_law_figure (P : Params) : GK P (s "_law_figure") 415 := ⟨g_law_figure P, k_law_figure P⟩
theorem h_law_side (P : Params) : GK P (s "_law_side") 422 := ⟨g_law_side P, k_law_side P⟩
theorem h_law_two (P : Params) : GK P (s "_law_two") 429 := ⟨g_law_two P, k_law_two P⟩
theorem h_law_row (P : Params) : GK P (s "_law_row") 434 := ⟨g_law_row P, k_law_row P⟩
theorem h_law_same (P : Params) : GK P (s "_law_same") 441 := ⟨g_law_same P, k_law_same P⟩
theorem h_Vector (P : Params) : GK P (s "Vector") 78 := ⟨gVector P, kVector P⟩
theorem h_Symbol (P : Params) : GK P (s "Symbol") 99 := ⟨gSymbol P, kSymbol P⟩
theorem h_Call (P : Params) : GK P (s "Call") 121 := ⟨gCall P, kCall P⟩
theorem h_Terms (P : Params) : GK P (s "Terms") 248 := ⟨gTerms P, kTerms P⟩
theorem h_TermReader (P : Params) : GK P (s "TermReader") 379 := ⟨gTermReader P, kTermReader P⟩
noncomputable abbrev QV := Value → Loc → Led → Prop
section
variable {w : World} {c : Fx} {f : Fn} {env : Env} {m : Loc} {N : Led} {Q : QV} {Qf : Flow → Loc → Led → Prop} {Qb : Bool → Loc → Led → Prop} {Qu : Unit → Loc → Led → Prop} {Ql : List Value → Loc → Led → Prop} {Qm : Value × List Value → Loc → Led → Prop} {e a b : Expr} {x y : Str} {p q : Pos} {l : List Expr} {kw : List Keyword} {st : Stmt} {sts : List Stmt} {v u : Value} {vs : List Value} {op : CmpOp} {bo : Operator} {uo : UnaryOp} {wb : Sem Bool} {wv : Sem Value} {bb : Bool} {ls : List (Bool × Sem Value)}
noncomputable abbrev IsEval : Prop := Sat w c f (eval e env) m N Q
noncomputable abbrev IsName : Prop := Sat w c f (eval (.Name x p) env) m N Q
noncomputable abbrev IsCN : Prop := Sat w c f (eval (.Call (.Name x p) l kw q) env) m N Q
noncomputable abbrev IsCA : Prop := Sat w c f (eval (.Call (.Attribute a x p) l kw q) env) m N Q
noncomputable abbrev IsApp : Prop := Sat w c f (eval (.Call (.Attribute a (Str.ofString "append") p) l kw q) env) m N Q
noncomputable abbrev IsExecs : Prop := Sat w c f (execs sts env) m N Qf
noncomputable abbrev IsExec : Prop := Sat w c f (exec st env) m N Qf
noncomputable abbrev IsTest : Prop := Sat w c f (PySem.isTrue e env wv) m N Qb
noncomputable abbrev IsSpl : Prop := Sat w c f (spliced ls) m N Ql
noncomputable abbrev IsCall : Prop := Sat w c f (PySem.call v vs) m N Q
noncomputable abbrev IsGet : Prop := Sat w c f (getAttr v x bb) m N Q
noncomputable abbrev IsMeth : Prop := Sat w c f (getMethod v x wb) m N Qm
noncomputable abbrev IsCmp : Prop := Sat w c f (compareOp op v u) m N Q
noncomputable abbrev IsTru : Prop := Sat w c f (truthy v) m N Qb
noncomputable abbrev IsSto : Prop := Sat w c f (storeName env x v) m N Qu
noncomputable abbrev IsLoa : Prop := Sat w c f (loadName env x) m N Q
noncomputable abbrev IsSub : Prop := Sat w c f (subscriptTail a b v u) m N Q
noncomputable abbrev IsNT : Prop := Sat w c f (newTuple vs) m N Q
noncomputable abbrev IsNL : Prop := Sat w c f (newList vs) m N Q
noncomputable abbrev IsBin : Prop := Sat w c f (binaryOp bo v u) m N Q
noncomputable abbrev IsInp : Prop := Sat w c f (inplaceOp bo v u) m N Q
noncomputable abbrev IsUna : Prop := Sat w c f (unaryOp uo v) m N Q
end
local macro_rules | `(tactic| walk_at "mem") => `(tactic| with_reducible first | assumption | exact List.mem_cons_self | (apply List.mem_cons_of_mem; walk_at "mem") | (apply List.mem_append_left; walk_at "mem") | (apply List.mem_append_right; walk_at "mem"))
local macro_rules | `(tactic| walk_at "sub") => `(tactic| with_reducible first | assumption | exact Sub.refl _ | (apply Sub.one; walk_at "sub"))
local macro_rules | `(tactic| walk_at "ints") => `(tactic| with_reducible repeat (first | exact IntsAre.nil | exact StrsAre.nil | apply IntsAre.cons | apply StrsAre.cons))
local macro_rules | `(tactic| walk_at "gs") => `(tactic| with_reducible (repeat (first | exact List.mem_cons_self | apply List.mem_cons_of_mem)))
local macro_rules | `(tactic| walk_at "glob") => `(tactic| with_reducible first | exact h_number _ | exact h_call_of _ | exact h_same_kernel _ | exact h_same_code _ | exact h_called_name _ | exact h_is_formula_call _ | exact h_formula_parts _ | exact h_constant_whole _ | exact h_union _ | exact h_crossed _ | exact h_joined _ | exact h_members _ | exact h_by_degree _ | exact h_expand _ | exact h_term_language _ | exact h_right_side _ | exact h_formula_of _ | exact h_law_figure _ | exact h_law_side _ | exact h_law_two _ | exact h_law_row _ | exact h_law_same _ | exact h_Vector _ | exact h_Symbol _ | exact h_Call _ | exact h_Terms _ | exact h_TermReader _)
local macro_rules | `(tactic| walk_at "lk") => `(tactic| with_reducible repeat (first | exact LkAt.zero | exact LkPut.zero | apply LkAt.succ | apply LkPut.succ))
local macro_rules | `(tactic| walk_at "biB") => `(tactic| with_reducible first | exact b_isinstance _ | exact b_len _ | exact b_abs _ | exact b_min _ | exact b_sorted _)
local macro_rules | `(tactic| walk_at "biT") => `(tactic| with_reducible first | exact b_range _ | exact b_list _ | exact b_tuple _)
local macro_rules | `(tactic| walk_at "3") => `(tactic| ((case h1 => rfl); (case h2 => rfl); (case h3 => rfl)))
local macro_rules | `(tactic| walk_at "execs") => `(tactic| with_reducible first
  | refine sat_nil ?_
  | refine sat_cons ?_)
local macro_rules | `(tactic| walk_at "hm") => `(tactic| (case hm => rfl))
local macro_rules | `(tactic| walk_at "exec") => `(tactic| first
  | (with_reducible refine sat_if ?_)
  | (with_reducible refine sat_ret ?_)
  | ((with_reducible first | refine sat_assign ?_ ?hm | refine sat_assignAttr ?_ ?hm | refine sat_assignSub ?_ ?hm); walk_at "hm")
  | with_reducible refine sat_aug ?_
  | ((with_reducible refine sat_expr ?_ ?ha ?hb); (case ha => rfl); (case hb => rfl)))
local macro_rules | `(tactic| walk_at "isTrue") => `(tactic| first
  | (with_reducible first
  | refine sat_t_and ?_
  | refine sat_t_and0 ?_
  | refine sat_t_or ?_
  | refine sat_t_or0 ?_
  | refine sat_t_not ?_)
  | ((with_reducible first | refine sat_t_cmp ?_ ?hm | refine sat_t_plain ?_ ?hm); walk_at "hm"))
local macro_rules | `(tactic| walk_at "name") => `(tactic| first
  | ((with_reducible refine' sat_ldA (by assumption) ?e ?_); (case e => walk_at "lk"))
  | ((with_reducible refine' sat_glH (by assumption) ?e (by assumption) ?g ?_); (case e => walk_at "glob"); (case g => walk_at "gs")))
local macro_rules | `(tactic| walk_at "evcall") => `(tactic| first
  | ((with_reducible refine' sat_cB (by assumption) ?e (by assumption) ?g ?_ ?h1 ?h2 ?h3); (case e => walk_at "biB"); (case g => walk_at "gs"); walk_at "3")
  | ((with_reducible refine' sat_cT (by assumption) ?e (by assumption) ?g ?_ ?h1 ?h2 ?h3); (case e => walk_at "biT"); (case g => walk_at "gs"); walk_at "3")
  | ((with_reducible refine' sat_cH (by assumption) ?e (by assumption) ?g ?_ ?h1 ?h2 ?h3); (case e => walk_at "glob"); (case g => walk_at "gs"); walk_at "3"))
local macro_rules | `(tactic| walk_at "evmeth") => `(tactic| first
  | ((with_reducible show Sat _ _ _ (eval (Expr.Call (Expr.Attribute _ (Str.ofString "append") _) _ _ _) _) _ _ _); (with_reducible refine' sat_methB ?_ ?h1 ?h2 ?h3); (case h1 => rfl); (case h2 => rfl); (case h3 => rfl))
  | ((with_reducible refine' sat_meth (by assumption) ?_ ?h1 ?h2 ?h3); (case h1 => rfl); (case h2 => rfl); (case h3 => rfl)))
local macro_rules | `(tactic| walk_at "getMethod") => `(tactic| ((with_reducible refine' p_getApp ?k1 ?_); (case k1 => walk_at "mem"); (with_reducible refine ⟨_, rfl, ?_⟩)))
local macro_rules | `(tactic| walk_at "eval") => `(tactic| first
  | ((with_reducible show Sat _ _ _ (eval (Expr.Name _ _) _) _ _ _); walk_at "name")
  | ((with_reducible show Sat _ _ _ (eval (Expr.Call (Expr.Name _ _) _ _ _) _) _ _ _); walk_at "evcall")
  | ((with_reducible show Sat _ _ _ (eval (Expr.Call (Expr.Attribute _ _ _) _ _ _) _) _ _ _); walk_at "evmeth")
  | ((with_reducible refine sat_attr ?_ ?hm); (case hm => rfl))
  | with_reducible refine sat_sub ?_
  | ((with_reducible refine sat_int ?_); intro _)
  | ((with_reducible refine sat_str ?_); intro _)
  | with_reducible refine sat_bool ?_
  | with_reducible refine sat_none ?_
  | ((with_reducible refine sat_cmp ?_ ?hm); (case hm => rfl))
  | with_reducible refine sat_bin ?_
  | with_reducible refine sat_ifexp ?_
  | with_reducible refine sat_one ?_
  | with_reducible refine sat_and ?_
  | with_reducible refine sat_or ?_
  | with_reducible refine sat_unary ?_
  | with_reducible refine sat_tuple ?_
  | with_reducible refine sat_list ?_)
local macro_rules | `(tactic| walk_at "call") => `(tactic| first
  | (with_reducible first
  | refine i_Sym_Sym (by assumption) (by assumption) ?_
  | refine i_Sym_Call (by assumption) (by assumption) ?_
  | refine i_Sym_Vec (by assumption) (by assumption) ?_
  | refine i_Call_Call (by assumption) (by assumption) ?_
  | refine i_Call_Sym (by assumption) (by assumption) ?_
  | refine i_Vec_Call (by assumption) (by assumption) ?_)
  | ((with_reducible first | refine' p_len ?k1 ?k2 ?_ | refine' p_lenT ?k1 ?k2 ?_); (case k1 => walk_at "mem"); (case k2 => first | (with_reducible assumption) | (simp; done) | (simp; omega)); intro _)
  | ((with_reducible refine' p_lenT ?k1 ?k2 ?_); (case k1 => walk_at "mem"); (case k2 => first | (with_reducible assumption) | (simp; done) | (simp; omega)); intro _))
local macro_rules | `(tactic| walk_at "getAttr") => `(tactic| first
  | ((with_reducible first | refine g_Sym_kind (by assumption) (by assumption) ?_ | refine g_Sym_name (by assumption) (by assumption) ?_ | refine g_Call_kind (by assumption) (by assumption) ?_ | refine g_Vec_kind (by assumption) (by assumption) ?_); intro _)
  | ((with_reducible refine g_Call_items (by assumption) (by assumption) ?_); intro _ _ _ _ _)
  | ((with_reducible refine g_Vec_items (by assumption) (by assumption) ?_); intro _ _ _ _ _ _ _))
local macro_rules | `(tactic| walk_at "compareOp") => `(tactic| first
  | (with_reducible first
  | refine p_eqS ?_
  | refine p_neS ?_
  | refine p_eqI ?_
  | refine p_neI ?_
  | refine p_lt ?_
  | refine p_gt ?_
  | refine p_eqB ?_
  | refine p_neB ?_
  | refine p_isNone (v := .none) ?_
  | refine p_isNotNone (v := .none) ?_)
  | ((with_reducible first | refine p_isR ?k1 ?_ ?k2 | refine p_isNotR ?k1 ?_ ?k2); (case k1 => (intro hh; contradiction)); (case k2 => rfl))
  | ((with_reducible refine' p_ninN ?k1 ?k2 ?_); (case k1 => walk_at "mem"); (case k2 => first | (with_reducible assumption) | walk_at "ints"))
  | ((with_reducible refine' p_inN ?k1 ?k2 ?_); (case k1 => walk_at "mem"); (case k2 => first | (with_reducible assumption) | walk_at "ints"))
  | ((with_reducible refine' p_inTI ?k1 ?k2 ?_); (case k1 => walk_at "mem"); (case k2 => first | (with_reducible assumption) | walk_at "ints"))
  | ((with_reducible refine' p_ninTI ?k1 ?k2 ?_); (case k1 => walk_at "mem"); (case k2 => first | (with_reducible assumption) | walk_at "ints"))
  | ((with_reducible refine' p_inTS ?k1 ?k2 ?_); (case k1 => walk_at "mem"); (case k2 => first | (with_reducible assumption) | walk_at "ints"))
  | ((with_reducible refine' p_ninTS ?k1 ?k2 ?_); (case k1 => walk_at "mem"); (case k2 => first | (with_reducible assumption) | walk_at "ints")))
local macro_rules | `(tactic| walk_at "sbt") => `(tactic| first
  | ((with_reducible refine' p_item ?k1 ?k2 ?k3 ?k4 ?_ ?k5); (case k1 => walk_at "mem"); (case k2 => decide); (case k3 => decide); (case k4 => rfl); (case k5 => with_unfolding_all rfl))
  | ((with_reducible refine' p_itemT ?k1 ?k2 ?k3 ?k4 ?_ ?k5); (case k1 => walk_at "mem"); (case k2 => decide); (case k3 => decide); (case k4 => rfl); (case k5 => with_unfolding_all rfl)))
local macro_rules | `(tactic| walk_at "new") => `(tactic| ((with_reducible first | refine sat_newTuple ?_ ?k1 | refine sat_newList ?_ ?k1); (case k1 => (rw [sizeLine_eq]; simp)); intro _ _))
local macro_rules | `(tactic| walk_at "else") => `(tactic| first
  | (with_reducible first
  | refine cmpB ?_
  | refine br_tt ?_
  | refine br_ff ?_
  | refine br_t (by assumption) ?_
  | refine br_f (by assumption) ?_)
  | ((with_reducible show ite _ _ _); walk_at "br"))
local macro_rules | `(tactic| walk_at "spl") => `(tactic| first
  | (with_reducible refine sat_sp_none ?_)
  | ((with_reducible refine sat_sp_more ?_ ?hm); walk_at "hm"))
local macro_rules | `(tactic| walk_at "tru") => `(tactic| with_reducible first
  | refine sat_truthy_bool ?_
  | refine sat_truthy_int ?_)
local macro_rules | `(tactic| walk_at "sto") => `(tactic| ((with_reducible refine' sat_stA (by assumption) ?e ?_); (case e => walk_at "lk")))
local macro_rules | `(tactic| walk_at "loa") => `(tactic| ((with_reducible refine' sat_lnA (by assumption) ?e ?_); (case e => walk_at "lk")))
local macro_rules | `(tactic| walk_at "bin") => `(tactic| ((with_reducible first | refine p_add ?_ | refine p_sub ?_ | refine p_band ?_ | refine p_bor ?_); intro _))
local macro_rules | `(tactic| walk_at "inp") => `(tactic| ((with_reducible refine p_iadd ?_); intro _))
local macro_rules | `(tactic| walk_at "una") => `(tactic| with_reducible refine p_notB ?_)
local macro_rules | `(tactic| walk_at "W1") => `(tactic| first
  | ((with_reducible show Sat _ _ _ (eval _ _) _ _ _); walk_at "eval")
  | ((with_reducible show Sat _ _ _ (getMethod _ _ _) _ _ _); walk_at "getMethod")
  | ((with_reducible show Sat _ _ _ (execs _ _) _ _ _); walk_at "execs")
  | ((with_reducible show Sat _ _ _ (exec _ _) _ _ _); walk_at "exec")
  | ((with_reducible show Sat _ _ _ (PySem.isTrue _ _ _) _ _ _); walk_at "isTrue")
  | ((with_reducible show Sat _ _ _ (spliced _) _ _ _); walk_at "spl")
  | ((with_reducible show Sat _ _ _ (call _ _) _ _ _); walk_at "call")
  | ((with_reducible show Sat _ _ _ (getAttr _ _ _) _ _ _); walk_at "getAttr")
  | ((with_reducible show Sat _ _ _ (compareOp _ _ _) _ _ _); walk_at "compareOp")
  | ((with_reducible show Sat _ _ _ (truthy _) _ _ _); walk_at "tru")
  | ((with_reducible show Sat _ _ _ (storeName _ _ _) _ _ _); walk_at "sto")
  | ((with_reducible show Sat _ _ _ (loadName _ _) _ _ _); walk_at "loa")
  | ((with_reducible show Sat _ _ _ (subscriptTail _ _ _ _) _ _ _); walk_at "sbt")
  | ((with_reducible show Sat _ _ _ (newTuple _) _ _ _); walk_at "new")
  | ((with_reducible show Sat _ _ _ (newList _) _ _ _); walk_at "new")
  | ((with_reducible show Sat _ _ _ (binaryOp _ _ _) _ _ _); walk_at "bin")
  | ((with_reducible show Sat _ _ _ (inplaceOp _ _ _) _ _ _); walk_at "inp")
  | ((with_reducible show Sat _ _ _ (unaryOp _ _) _ _ _); walk_at "una")
  | walk_at "else")
local macro_rules | `(tactic| walk_at "W") => `(tactic| repeat walk_at "W1")
local macro_rules | `(tactic| walk_at "br") => `(tactic| first
  | refine br_t (by decide +kernel) ?_
  | refine br_f (by decide +kernel) ?_
  | ((refine br_t ?k1 ?_); (case k1 => (simp; done)))
  | ((refine br_f ?k1 ?_); (case k1 => (simp; done))))
section
variable {w : World} {c : Fx} {f : Fn} {m : Loc} {N : Led}
theorem c_Symbol {nm : Str} {t : Tok} {Q : Value → Loc → Led → Prop} (hc : c.Ok w) (hf : f.cs.kind = .function) (hroom : c.dp + 1 < recursionLimit) (h : ∀ v N', Sub N N' → SymAt N' v nm → Q v m N') : Sat w c f (call (.ref 99) [.str nm t]) m N Q := by
  refine new_Symbol hc hf hroom fun x dx h1 h2 c' hc' hd hl => ?_
  have G := G_symI
  refine sat_cons ?_
  walk_at "W"
  refine sat_init hc' (aSymbol_kind _) .nil h1 h2 (by decide +kernel) (by decide) fun e1 F1 => ?_
  walk_at "W"
  refine sat_init hc' (aSymbol_name _) F1 h1 h2 (by decide +kernel) (by decide) fun e2 F2 => ?_
  walk_at "W"
  refine sat_init hc' (aSymbol_attrs _) F2 h1 h2 (by decide +kernel) (by decide) fun e3 F3 => ?_
  walk_at "W"
  exact ⟨rfl, h _ _ (Sub.refl _).one.one ⟨_, _, _, _, _, _, rfl, .head _, .tail _ (.head _), F3⟩⟩
theorem c_Call {il tv : Addr} {ox : Value} {args : List Value} {k : Nat} {op : Str} {Q : Value → Loc → Led → Prop} (hc : c.Ok w) (hf : f.cs.kind = .function) (hroom : c.dp + 1 < recursionLimit) (hi : (il, lst (ox :: args) k) ∈ N) (ho : SymAt N ox op)
    (h : ∀ v N', Sub N N' → CallAt N' v op args → Q v m N') : Sat w c f (call (.ref 121) [.ref il, .ref tv]) m N Q := by
  refine new_Call hc hf hroom fun x dx h1 h2 c' hc' hd hl => ?_
  have G := G_callI
  refine sat_cons ?_
  walk_at "W"
  refine sat_init hc' (aCall_kind _) .nil h1 h2 (by decide +kernel) (by decide) fun e1 F1 => ?_
  walk_at "W"
  refine sat_init hc' (aCall_items _) F1 h1 h2 (by decide +kernel) (by decide) fun e2 F2 => ?_
  walk_at "W"
  refine sat_init hc' (aCall_tags _) F2 h1 h2 (by decide +kernel) (by decide) fun e3 F3 => ?_
  walk_at "W"
  refine sat_init hc' (aCall_attrs _) F3 h1 h2 (by decide +kernel) (by decide) fun e4 F4 => ?_
  walk_at "W"
  refine sat_init hc' (aCall_code _) F4 h1 h2 (by decide +kernel) (by decide) fun e5 F5 => ?_
  walk_at "W"
  have sb := (Sub.refl N).one (p := (dx, dictOf e5 5)) |>.one (p := (x, instObj 121 dx))
  exact ⟨rfl, h _ _ sb ⟨_, _, _, _, _, _, _, _, _, rfl, .head _, .tail _ (.head _), F5, sb _ hi, ho.sub sb⟩⟩
theorem c_Vector {il tp : Addr} {k : Nat} {z : Int} {t u1 u2 : Tok} {Q : Value → Loc → Led → Prop} (hc : c.Ok w) (hf : f.cs.kind = .function) (hroom : c.dp + 1 < recursionLimit) (hi : (il, lst [.ref tp] k) ∈ N) (ht : (tp, tup [.int z u1, .int 1 u2]) ∈ N)
    (h : ∀ v N', Sub N N' → VecAt N' v z → Q v m N') : Sat w c f (call (.ref 78) [.str (s "double") t, .ref il]) m N Q := by
  refine new_Vector hc hf hroom fun x dx h1 h2 c' hc' hd hl => ?_
  have G := G_vecI
  refine sat_cons ?_
  walk_at "W"
  refine sat_init hc' (aVector_kind _) .nil h1 h2 (by decide +kernel) (by decide) fun e1 F1 => ?_
  walk_at "W"
  refine sat_init hc' (aVector_items _) F1 h1 h2 (by decide +kernel) (by decide) fun e2 F2 => ?_
  walk_at "W"
  refine sat_init hc' (aVector_attrs _) F2 h1 h2 (by decide +kernel) (by decide) fun e3 F3 => ?_
  walk_at "W"
  refine sat_init hc' (aVector_shared _) F3 h1 h2 (by decide +kernel) (by decide) fun e4 F4 => ?_
  walk_at "W"
  refine sat_init hc' (aVector_loose _) F4 h1 h2 (by decide +kernel) (by decide) fun e5 F5 => ?_
  walk_at "W"
  have sb := (Sub.refl N).one (p := (dx, dictOf e5 5)) |>.one (p := (x, instObj 78 dx))
  exact ⟨rfl, h _ _ sb ⟨_, _, _, _, _, _, _, _, _, _, rfl, .head _, .tail _ (.head _), F5, sb _ hi, sb _ ht⟩⟩
theorem c_Terms {v1 v2 v3 v4 v5 : Value} {Q : Value → Loc → Led → Prop} (hc : c.Ok w) (hf : f.cs.kind = .function) (hroom : c.dp + 1 < recursionLimit)
    (h : ∀ x dx es n, (∀ p ∈ N, p.1 < dx) → dx < x → Flds es fsTerms [v1, v2, v3, v4, v5] → Q (.ref x) m ((x, instObj 248 dx) :: (dx, dictOf es n) :: N)) : Sat w c f (call (.ref 248) [v1, v2, v3, v4, v5]) m N Q := by
  refine new_Terms hc hf hroom fun x dx h1 h2 c' hc' hd hl => ?_
  have G := G_termsI
  refine sat_cons ?_
  walk_at "W"
  refine sat_init hc' (aTerms_response _) .nil h1 h2 (by decide +kernel) (by decide) fun e1 F1 => ?_
  walk_at "W"
  refine sat_init hc' (aTerms_variables _) F1 h1 h2 (by decide +kernel) (by decide) fun e2 F2 => ?_
  walk_at "W"
  refine sat_init hc' (aTerms_factors _) F2 h1 h2 (by decide +kernel) (by decide) fun e3 F3 => ?_
  walk_at "W"
  refine sat_init hc' (aTerms_intercept _) F3 h1 h2 (by decide +kernel) (by decide) fun e4 F4 => ?_
  walk_at "W"
  refine sat_init hc' (aTerms_offsets _) F4 h1 h2 (by decide +kernel) (by decide) fun e5 F5 => ?_
  walk_at "W"
  exact ⟨rfl, h _ _ _ _ h1 h2 F5⟩
end
section
variable {w : World} {c : Fx} {f : Fn} {m : Loc} {N : Led}
theorem c_called_call {v : Value} {op : Str} {args : List Value} {Q : Value → Loc → Led → Prop} (hc : c.Ok w) (hf : f.cs.kind = .function) (hroom : c.dp + 1 < recursionLimit) (hs : CallAt N v op args) (h : ∀ t, Q (.str op t) m N) : Sat w c f (call (.ref 259) [v]) m N Q := by
  refine call_called_name hc hf (by omega) fun c' hc' hd hu hl => ?_
  have G := G_called_name
  refine sat_cons ?_
  walk_at "W"
  exact h _
theorem c_called_sym {v : Value} {nm : Str} {Q : Value → Loc → Led → Prop} (hc : c.Ok w) (hf : f.cs.kind = .function) (hroom : c.dp + 1 < recursionLimit) (hs : SymAt N v nm) (h : ∀ t, Q (.str (s "") t) m N) : Sat w c f (call (.ref 259) [v]) m N Q := by
  refine call_called_name hc hf (by omega) fun c' hc' hd hu hl => ?_
  have G := G_called_name
  refine sat_cons ?_
  walk_at "W"
  exact h _
theorem c_is_formula {v : Value} {a : Value} {Q : Value → Loc → Led → Prop} (hc : c.Ok w) (hf : f.cs.kind = .function) (hroom : c.dp + 2 < recursionLimit) (hs : CallAt N v (s "~") [a]) (h : ∀ N', Sub N N' → Q (.bool true) m N') : Sat w c f (call (.ref 266) [v]) m N Q := by
  refine call_is_formula_call hc hf (by omega) fun c' hc' hd hu hl => ?_
  have G := G_is_formula_call
  refine sat_cons ?_
  walk_at "W"
  refine c_called_call hc' rfl (by omega) hs fun _ => ?_
  walk_at "W"
  exact h _ (by walk_at "sub")
theorem c_parts {v : Value} {a : Value} {Q : Value → Loc → Led → Prop} (hc : c.Ok w) (hf : f.cs.kind = .function) (hroom : c.dp + 3 < recursionLimit) (hs : CallAt N v (s "~") [a]) (h : ∀ t N', Sub N N' → (t, tup [.none, a]) ∈ N' → Q (.ref t) m N') : Sat w c f (call (.ref 273) [v]) m N Q := by
  refine call_formula_parts hc hf (by omega) fun c' hc' hd hu hl => ?_
  have G := G_formula_parts
  refine sat_cons ?_
  walk_at "W"
  refine c_is_formula hc' rfl (by omega) hs fun N1 s1 => ?_
  have hs1 := hs.sub s1
  walk_at "W"
  exact h _ _ (by walk_at "sub") (by walk_at "mem")
theorem c_whole_sym {v : Value} {nm : Str} {Q : Value → Loc → Led → Prop} (hc : c.Ok w) (hf : f.cs.kind = .function) (hroom : c.dp + 1 < recursionLimit) (hs : SymAt N v nm) (h : Q .none m N) : Sat w c f (call (.ref 280) [v]) m N Q := by
  refine call_constant_whole hc hf (by omega) fun c' hc' hd hu hl => ?_
  have G := G_constant_whole
  refine sat_cons ?_
  walk_at "W"
  exact h
theorem c_whole_call {v : Value} {op : Str} {args : List Value} {Q : Value → Loc → Led → Prop} (hc : c.Ok w) (hf : f.cs.kind = .function) (hroom : c.dp + 1 < recursionLimit) (hs : CallAt N v op args) (h : Q .none m N) : Sat w c f (call (.ref 280) [v]) m N Q := by
  refine call_constant_whole hc hf (by omega) fun c' hc' hd hu hl => ?_
  have G := G_constant_whole
  refine sat_cons ?_
  walk_at "W"
  exact h
theorem c_whole_vec {v : Value} {z : Int} {Q : Value → Loc → Led → Prop} (hc : c.Ok w) (hf : f.cs.kind = .function) (hroom : c.dp + 1 < recursionLimit) (hs : VecAt N v z) (h : ∀ t, Q (.int z t) m N) : Sat w c f (call (.ref 280) [v]) m N Q := by
  refine call_constant_whole hc hf (by omega) fun c' hc' hd hu hl => ?_
  have G := G_constant_whole
  refine sat_cons ?_
  walk_at "W"
  exact h _
end
section
variable {w : World} {c : Fx} {f : Fn} {m : Loc} {N : Led}
theorem c_call_of {l : Addr} {args : List Value} {k : Nat} {op : Str} {t : Tok} {Q : Value → Loc → Led → Prop} (hc : c.Ok w) (hf : f.cs.kind = .function) (hroom : c.dp + 3 < recursionLimit) (hl : (l, lst args k) ∈ N) (hz : args.length ≤ 10)
    (h : ∀ v N', Sub N N' → CallAt N' v op args → Q v m N') : Sat w c f (call (.ref 140) [.str op t, .ref l]) m N Q := by
  refine call_call_of hc hf (by omega) fun c' hc' hd hu hl' => ?_
  have G := G_call_of
  refine sat_cons ?_
  walk_at "W"
  refine c_Symbol hc' rfl (by omega) fun o N1 s1 ho => ?_
  have hl1 := s1 _ hl
  walk_at "W"
  refine p_listL (.tail _ hl1) (by omega) fun r k' lt => ?_
  refine p_cat (.tail _ (.head _)) (.head _) (by simp; omega) fun r2 lt2 => ?_
  walk_at "W"
  refine p_mul (.head _) (Int.natCast_nonneg _) (by simp; omega) fun r3 lt3 => ?_
  walk_at "W"
  refine c_Call (ox := o) (args := args) hc' rfl (by omega) (.tail _ (.tail _ (.head _))) (ho.sub (by walk_at "sub")) fun v N2 s2 hv => ?_
  exact h _ _ (s1.trans (Sub.trans (by walk_at "sub") s2)) hv
theorem c_number {z : Int} {t : Tok} {Q : Value → Loc → Led → Prop} (hc : c.Ok w) (hf : f.cs.kind = .function) (hroom : c.dp + 3 < recursionLimit) 
    (h : ∀ v N', Sub N N' → VecAt N' v z → Q v m N') : Sat w c f (call (.ref 133) [.int z t]) m N Q := by
  refine call_number hc hf (by omega) fun c' hc' hd hu hl' => ?_
  have G := G_number
  refine sat_cons ?_
  walk_at "W"
  refine p_absI fun t1 => ?_
  walk_at "W"
  refine sat_while (fun k m' N' => Sub N N' ∧ ∃ y b t2 t3, (k = 1 ∧ b = 1 ∨ k = 0 ∧ y = 1 ∧ b = 0) ∧ m' = lk [s "n", s "d", s "a", s "b"] [some (Value.int z t), some (Value.int 1 351), some (Value.int y t2), some (Value.int b t3)]) 1 ⟨Sub.refl _, _, _, _, _, .inl ⟨rfl, rfl⟩, rfl⟩ ?_
  rintro k m' N' ⟨sN, y, b, t2, t3, hb, rfl⟩
  walk_at "W"
  rcases hb with ⟨rfl, rfl⟩ | ⟨rfl, rfl, rfl⟩
  · walk_at "W"
    refine sat_assignW ?_ rfl rfl
    walk_at "W"
    refine p_mod (by decide) fun t4 => ?_
    walk_at "W"
    refine ⟨_, _, _, rfl, .head _, ?_⟩
    walk_at "W"
    refine ⟨0, by decide, sN.one, _, _, _, _, .inr ⟨rfl, rfl, ?_⟩, rfl⟩
    simp
  · walk_at "W"
    refine p_div (by decide) rfl fun t4 => ?_
    walk_at "W"
    refine p_div (by decide) rfl fun t5 => ?_
    walk_at "W"
    refine c_Vector (z := z) (u1 := t4) (u2 := t5) hc' rfl (by omega) (by walk_at "mem") ?_ fun v N2 s2 hv => h _ _ (sN.trans (Sub.trans (by walk_at "sub") s2)) hv
    have e1 : z.fdiv 1 = z := by simp
    have e2 : (1 : Int).fdiv 1 = 1 := by decide
    rw [e1, e2]
    walk_at "mem"
theorem c_kernel {u v : Value} {a b : Str} {Q : Value → Loc → Led → Prop} (hc : c.Ok w) (hf : f.cs.kind = .function) (hroom : c.dp + 1 < recursionLimit) (hu : SymAt N u a) (hv : SymAt N v b) (h : Q (.bool (a == b)) m N) : Sat w c f (call (.ref 182) [u, v]) m N Q := by
  refine call_same_kernel hc hf (by omega) fun c' hc' hd hu' hl => ?_
  have G := G_same_kernel
  refine sat_cons ?_
  walk_at "W"
  exact h
theorem c_same {u v : Value} {a b : Str} {Q : Value → Loc → Led → Prop} (hc : c.Ok w) (hf : f.cs.kind = .function) (hroom : c.dp + 2 < recursionLimit) (hu : SymAt N u a) (hv : SymAt N v b) (h : Q (.bool (a == b)) m N) : Sat w c f (call (.ref 203) [u, v]) m N Q := by
  refine call_same_code hc hf (by omega) fun c' hc' hd hu' hl => ?_
  have G := G_same_code
  refine sat_cons ?_
  walk_at "W"
  refine c_kernel hc' rfl (by omega) hu hv ?_
  walk_at "W"
  exact h
end
section
variable {w : World} {c : Fx} {f : Fn} {m : Loc} {N : Led}
theorem zs_snoc {vs : List Value} {ns : List Nat} {x : Nat} {t : Tok} (h : IntsAre vs (zs ns)) : IntsAre (vs ++ [.int x t]) (zs (ns ++ [x])) := by
  rw [zs, List.map_append]
  exact h.append (.cons _ _ .nil)
theorem zs_len {vs : List Value} {ns : List Nat} (h : IntsAre vs (zs ns)) : vs.length = ns.length := by rw [h.length]; simp
theorem zs_at {vs : List Value} {ns : List Nat} (h : IntsAre vs (zs ns)) {i : Nat} {v : Value} (hv : vs[i]? = some v) : ∃ x t, v = .int ((x : Nat) : Int) t ∧ ns[i]? = some x := by
  obtain ⟨n, t, e, g⟩ := IntsAre.at h i v hv
  rw [zs, List.getElem?_map] at g
  cases q : ns[i]? with
  | none => rw [q] at g; cases g
  | some x => rw [q] at g; cases g; exact ⟨x, t, e, rfl⟩
theorem take_snoc {α : Type} {l : List α} {i : Nat} {x : α} (h : l[i]? = some x) : l.take (i + 1) = l.take i ++ [x] := by
  rw [List.take_add_one, h]; rfl
theorem gt0_t {x : Nat} (h : 0 < x) : decide ((0 : Int) < (x : Int)) = true := decide_eq_true (by omega)
theorem gt0_f {x : Nat} (h : x = 0) : ¬ decide ((0 : Int) < (x : Int)) = true := by subst h; decide
theorem nz_t {x : Nat} {b : Bool} (h : (x != 0) = b) : ((x : Int) != 0) = b := by
  rw [← h, Bool.eq_iff_iff]; simp
theorem and_nat1 (a : Nat) : Builtin.bitAnd (a : Int) 1 = ((a &&& 1 : Nat) : Int) := and_nat a 1
theorem cast_succ (a : Nat) : (a : Int) + 1 = ((a + 1 : Nat) : Int) := by omega
theorem filter_snoc (t p : Nat) : (List.range (p + 1)).filter (fun i => t.testBit i) = (List.range p).filter (fun i => t.testBit i) ++ if t.testBit p = true then [p] else [] := by
  cases h : t.testBit p <;> simp [List.range_succ, h]
theorem c_members {t : Nat} {tk : Tok} {Q : Value → Loc → Led → Prop} (hc : c.Ok w) (hf : f.cs.kind = .function) (hroom : c.dp + 1 < recursionLimit) (ht : t < 16)
    (h : ∀ r vs N', Sub N N' → (r, tup vs) ∈ N' → IntsAre vs (zs (mems t)) → Q (.ref r) m N') : Sat w c f (call (.ref 308) [.int (t : Int) tk]) m N Q := by
  refine call_members hc hf (by omega) fun c' hc' hd hu hl' => ?_
  have G := G_members
  refine sat_cons ?_
  walk_at "W"
  rename_i L hL t0
  refine sat_while (fun k m' N' => ∃ p ys kk t1 t2, p + k = 4 ∧ m' = lk [s "term", s "numbers", s "place"] [some (.int ((t >>> p : Nat) : Int) t1), some (.ref L), some (.int ((p : Nat) : Int) t2)] ∧ N' = (L, lst ys kk) :: N ∧ IntsAre ys (zs ((List.range p).filter fun i => t.testBit i))) 4 ⟨0, [], 0, _, _, rfl, rfl, rfl, .nil⟩ ?_
  rintro k m' N' ⟨p, ys, kk, t1, t2, hp, rfl, rfl, hI⟩
  have hyl : ys.length ≤ 16384 := by
    have := zs_len hI
    have := List.length_filter_le (fun i => t.testBit i) (List.range p)
    simp at this; omega
  walk_at "W"
  by_cases h0 : 0 < t >>> p
  · have hp4 : p < 4 := by
      rcases Nat.lt_or_ge p 4 with q | q
      · exact q
      · have : p = 4 := by omega
        subst this
        rw [shr_four t ht] at h0; cases h0
    refine br_t (gt0_t h0) ?_
    walk_at "W"
    rename_i t3
    rw [and_nat1]
    walk_at "W"
    have hb := nz_t (bit_step t ht p (by omega))
    have hsh : (t >>> p) / 2 = t >>> (p + 1) := by rw [Nat.shiftRight_succ]
    have hfs := filter_snoc t p
    cases hbit : t.testBit p with
    | true =>
      rw [hbit] at hb hfs
      rw [if_pos rfl] at hfs
      refine br_t hb ?_
      walk_at "W"
      refine p_app (.head fun q hq => Nat.ne_of_lt (hL q hq)) hyl ?_
      walk_at "W"
      refine ⟨rfl, ?_⟩
      walk_at "W"
      refine p_shr (by decide) fun t4 => ?_
      rw [shr_nat, hsh]
      walk_at "W"
      rw [cast_succ]
      refine ⟨k - 1, by omega, p + 1, _, _, _, _, by omega, rfl, rfl, ?_⟩
      rw [hfs]
      exact zs_snoc hI
    | false =>
      rw [hbit] at hb hfs
      rw [if_neg (by decide), List.append_nil] at hfs
      refine br_f (by rw [hb]; decide) ?_
      walk_at "W"
      refine p_shr (by decide) fun t4 => ?_
      rw [shr_nat, hsh]
      walk_at "W"
      rw [cast_succ]
      refine ⟨k - 1, by omega, p + 1, _, _, _, _, by omega, rfl, rfl, ?_⟩
      rw [hfs]
      exact hI
  · have h0' : t >>> p = 0 := Nat.eq_zero_of_not_pos h0
    refine br_f (gt0_f h0') ?_
    walk_at "W"
    refine p_tupL (.head _) hyl fun r lt => ?_
    walk_at "W"
    refine h _ _ _ (by walk_at "sub") (.head _) ?_
    rw [← mems_end t ht p (by omega) h0']
    exact hI
end
section
variable {w : World} {c : Fx} {f : Fn} {m : Loc} {N : Led}
theorem foldl_len {α : Type} (g : List Nat → α → List Nat) (hg : ∀ r x, (g r x).length ≤ r.length + 1) : ∀ (l : List α) (r : List Nat), (l.foldl g r).length ≤ r.length + l.length
  | [], r => by simp
  | x :: l, r => by
    have := foldl_len g hg l (g r x)
    have := hg r x
    simp only [List.foldl_cons, List.length_cons]; omega
theorem ins_len (r : List Nat) (x : Nat) : (ins r x).length ≤ r.length + 1 := by
  unfold ins; split <;> simp
theorem zs_app {vs us : List Value} {a b : List Nat} (h : IntsAre vs (zs a)) (h' : IntsAre us (zs b)) : IntsAre (vs ++ us) (zs (a ++ b)) := by
  rw [zs, List.map_append]; exact h.append h'
theorem c_union {l1 l2 : Addr} {vs us : List Value} {n1 n2 : Nat} {a b : List Nat} {Q : Value → Loc → Led → Prop} (hc : c.Ok w) (hf : f.cs.kind = .function) (hroom : c.dp + 1 < recursionLimit) (h1 : (l1, lst vs n1) ∈ N) (h2 : (l2, lst us n2) ∈ N) (i1 : IntsAre vs (zs a)) (i2 : IntsAre us (zs b))
    (hz : a.length + b.length ≤ 1000) (h : ∀ r ys k N', Sub N N' → (r, lst ys k) ∈ N' → IntsAre ys (zs (uni a b)) → Q (.ref r) m N') : Sat w c f (call (.ref 287) [.ref l1, .ref l2]) m N Q := by
  refine call_union hc hf (by omega) fun c' hc' hd hu hl' => ?_
  have G := G_union
  have z1 := zs_len i1
  have z2 := zs_len i2
  refine sat_cons ?_
  walk_at "W"
  rename_i F hF
  refine sat_forL ?_ (by intro _; rfl)
  walk_at "W"
  refine p_cat (.tail _ h1) (.tail _ h2) (by omega) fun C hC => ?_
  have i3 := zs_app i1 i2
  refine ⟨C, vs ++ us, 0, rfl, fun i m' N' => ∃ ys k tv, m' = lk [s "first", s "second", s "found", s "term"] [some (.ref l1), some (.ref l2), some (.ref F), tv] ∧ N' = (C, lst (vs ++ us) 0) :: (F, lst ys k) :: N ∧ IntsAre ys (zs (((a ++ b).take i).foldl ins [])),
    ⟨[], 0, _, rfl, rfl, .nil⟩, ?_, ?_, ?_⟩
  · rintro i m' N' ⟨ys, k, tv, rfl, rfl, _⟩; exact .head _
  · rintro i u m' N' hu ⟨ys, k, tv, rfl, rfl, hI⟩
    obtain ⟨x, t, rfl, hx⟩ := zs_at i3 hu
    have hyl : ys.length ≤ 16384 := by
      have := zs_len hI
      have := foldl_len ins ins_len ((a ++ b).take i) []
      simp at this; omega
    have step : ((a ++ b).take (i + 1)).foldl ins [] = ins (((a ++ b).take i).foldl ins []) x := by
      rw [take_snoc hx, List.foldl_append]; rfl
    walk_at "W"
    by_cases hx' : x ∈ ((a ++ b).take i).foldl ins []
    · refine br_f (by simp [hx']) ?_
      walk_at "W"
      refine ⟨_, _, _, rfl, rfl, ?_⟩
      rw [step, ins, if_pos hx']; exact hI
    · refine br_t (by simp [hx']) ?_
      walk_at "W"
      refine p_app (.tail (Nat.ne_of_gt (hC _ (.head _))) (.head fun q hq => Nat.ne_of_lt (hF q hq))) hyl ?_
      walk_at "W"
      refine ⟨rfl, ?_⟩
      walk_at "W"
      refine ⟨_, _, _, rfl, rfl, ?_⟩
      rw [step, ins, if_neg hx']; exact zs_snoc hI
  · rintro m' N' ⟨ys, k, tv, rfl, rfl, hI⟩
    walk_at "W"
    refine h _ _ _ _ (by walk_at "sub") (by walk_at "mem") ?_
    rw [List.take_of_length_le (by simp; omega)] at hI
    exact hI
end
section
variable {w : World} {c : Fx} {f : Fn} {m : Loc} {N : Led}
theorem crs1_snoc (b r : List Nat) (l : Nat) {i : Nat} {x : Nat} (h : b[i]? = some x) : crs1 (b.take (i + 1)) r l = ins (crs1 (b.take i) r l) (l ||| x) := by
  unfold crs1; rw [take_snoc h, List.foldl_append]; rfl
theorem c_crossed {l1 l2 : Addr} {vs us : List Value} {n1 n2 : Nat} {a b : List Nat} {Q : Value → Loc → Led → Prop} (hc : c.Ok w) (hf : f.cs.kind = .function) (hroom : c.dp + 1 < recursionLimit) (h1 : (l1, lst vs n1) ∈ N) (h2 : (l2, lst us n2) ∈ N) (i1 : IntsAre vs (zs a)) (i2 : IntsAre us (zs b))
    (hz : a.length * b.length ≤ 1000) (h : ∀ r ys k N', Sub N N' → (r, lst ys k) ∈ N' → IntsAre ys (zs (crs a b)) → Q (.ref r) m N') : Sat w c f (call (.ref 294) [.ref l1, .ref l2]) m N Q := by
  refine call_crossed hc hf (by omega) fun c' hc' hd hu hl' => ?_
  have G := G_crossed
  have z1 := zs_len i1
  have z2 := zs_len i2
  have clen1 : ∀ (b r : List Nat) (l : Nat), (crs1 b r l).length ≤ r.length + b.length := fun b r l => foldl_len (fun r t => ins r (l ||| t)) (fun r x => ins_len r _) b r
  have clen : ∀ (a' r : List Nat), (a'.foldl (crs1 b) r).length ≤ r.length + a'.length * b.length := by
    intro a'
    induction a' with
    | nil => intro r; simp
    | cons x xs ih =>
      intro r
      have e1 := ih (crs1 b r x)
      have e2 := clen1 b r x
      simp only [List.foldl_cons, List.length_cons, Nat.add_mul, Nat.one_mul]; omega
  refine sat_cons ?_
  walk_at "W"
  rename_i F hF
  refine sat_forL ?_ (by intro _; rfl)
  walk_at "W"
  refine ⟨l1, vs, n1, rfl, fun i m' N' => ∃ ys k tv tw, m' = lk [s "first", s "second", s "found", s "left", s "right"] [some (.ref l1), some (.ref l2), some (.ref F), tv, tw] ∧ N' = (F, lst ys k) :: N ∧ IntsAre ys (zs ((a.take i).foldl (crs1 b) [])),
    ⟨[], 0, _, _, rfl, rfl, .nil⟩, ?_, ?_, ?_⟩
  · rintro i m' N' ⟨ys, k, tv, tw, rfl, rfl, _⟩; exact .tail _ h1
  · rintro i u m' N' hu ⟨ys, k, tv, tw, rfl, rfl, hI⟩
    obtain ⟨x, t, rfl, hx⟩ := zs_at i1 hu
    have hia : i < a.length := (List.getElem?_eq_some_iff.mp hx).1
    have step : (a.take (i + 1)).foldl (crs1 b) [] = crs1 b ((a.take i).foldl (crs1 b) []) x := by
      rw [take_snoc hx, List.foldl_append]; rfl
    have hlen := clen (a.take i) []
    have hmul : (a.take i).length * b.length + b.length ≤ a.length * b.length := by
      rw [← Nat.succ_mul]
      exact Nat.mul_le_mul_right _ (by simp; omega)
    generalize hR : (a.take i).foldl (crs1 b) [] = R at hI hlen
    walk_at "W"
    refine sat_forL ?_ (by intro _; rfl)
    walk_at "W"
    refine ⟨l2, us, n2, rfl, fun j m' N' => ∃ ys k tw, m' = lk [s "first", s "second", s "found", s "left", s "right"] [some (.ref l1), some (.ref l2), some (.ref F), some (.int x t), tw] ∧ N' = (F, lst ys k) :: N ∧ IntsAre ys (zs (crs1 (b.take j) R x)),
      ⟨ys, k, _, rfl, rfl, hI⟩, ?_, ?_, ?_⟩
    · rintro i m' N' ⟨ys, k, tw, rfl, rfl, _⟩; exact .tail _ h2
    · rintro j u m' N' hu ⟨ys, k, tw, rfl, rfl, hI⟩
      obtain ⟨y, t', rfl, hy⟩ := zs_at i2 hu
      have hyl : ys.length ≤ 16384 := by
        have := zs_len hI
        have := clen1 (b.take j) R x
        have e2 : (b.take j).length ≤ b.length := by rw [List.length_take]; omega
        simp only [List.length_nil, Nat.zero_add] at hlen; omega
      walk_at "W"
      rw [or_nat]
      walk_at "W"
      by_cases hx' : (x ||| y) ∈ crs1 (b.take j) R x
      · refine br_f (by simp [hx']) ?_
        walk_at "W"
        refine ⟨_, _, _, rfl, rfl, ?_⟩
        rw [crs1_snoc b R x hy, ins, if_pos hx']; exact hI
      · refine br_t (by simp [hx']) ?_
        walk_at "W"
        rw [or_nat]
        walk_at "W"
        refine p_app (.head fun q hq => Nat.ne_of_lt (hF q hq)) hyl ?_
        walk_at "W"
        refine ⟨rfl, ?_⟩
        walk_at "W"
        refine ⟨_, _, _, rfl, rfl, ?_⟩
        rw [crs1_snoc b R x hy, ins, if_neg hx']; exact zs_snoc hI
    · rintro m' N' ⟨ys, k, tw, rfl, rfl, hI⟩
      rw [List.take_of_length_le (by omega)] at hI
      walk_at "W"
      refine ⟨_, _, _, _, rfl, rfl, ?_⟩
      rw [step, hR]; exact hI
  · rintro m' N' ⟨ys, k, tv, tw, rfl, rfl, hI⟩
    walk_at "W"
    refine h _ _ _ _ (by walk_at "sub") (by walk_at "mem") ?_
    rw [List.take_of_length_le (by omega)] at hI
    exact hI
theorem c_joined {l1 : Addr} {vs : List Value} {n1 : Nat} {a : List Nat} {Q : Value → Loc → Led → Prop} (hc : c.Ok w) (hf : f.cs.kind = .function) (hroom : c.dp + 1 < recursionLimit) (h1 : (l1, lst vs n1) ∈ N) (i1 : IntsAre vs (zs a))
    (h : ∀ t, Q (.int (joi a : Nat) t) m N) : Sat w c f (call (.ref 301) [.ref l1]) m N Q := by
  refine call_joined hc hf (by omega) fun c' hc' hd hu hl' => ?_
  have G := G_joined
  refine sat_cons ?_
  walk_at "W"
  refine sat_forL ?_ (by intro _; rfl)
  walk_at "W"
  rename_i t0
  refine ⟨l1, vs, n1, rfl, fun i m' N' => ∃ tv t, m' = lk [s "row", s "whole", s "term"] [some (.ref l1), some (.int (joi (a.take i) : Nat) t), tv] ∧ N' = N,
    ⟨_, t0, rfl, rfl⟩, ?_, ?_, ?_⟩
  · rintro i m' N' ⟨tv, tw, rfl, rfl⟩; exact h1
  · rintro i u m' N' hu ⟨tv, tw, rfl, rfl⟩
    obtain ⟨x, t, rfl, hx⟩ := zs_at i1 hu
    have step : joi (a.take (i + 1)) = joi (a.take i) ||| x := by
      rw [take_snoc hx, joi, List.foldl_append]; rfl
    walk_at "W"
    rw [or_nat, ← step]
    walk_at "W"
    exact ⟨_, _, rfl, rfl⟩
  · rintro m' N' ⟨tv, t, rfl, rfl⟩
    walk_at "W"
    have := h t
    rw [List.take_of_length_le (by rw [zs_len i1]; exact Nat.le_refl _)]
    exact this
end
section
variable {w : World} {c : Fx} {f : Fn} {m : Loc} {N : Led}
theorem upTo_len (row : List Nat) (h : Small row) (d : Nat) (hd : d ≤ 4) : (upTo row d).length ≤ row.length := by
  rw [← deg_row h, ← upTo_four]
  have : ∀ j, d ≤ j → j ≤ 4 → (upTo row d).length ≤ (upTo row j).length := by
    intro j h1 h2
    induction j with
    | zero => have : d = 0 := by omega
              subst this; exact Nat.le_refl _
    | succ j ih =>
      rcases Nat.lt_or_ge d (j + 1) with q | q
      · rw [upTo_succ, List.length_append]
        have := ih (by omega) (by omega)
        omega
      · have : d = j + 1 := by omega
        subst this; exact Nat.le_refl _
  exact this 4 hd (Nat.le_refl _)
theorem filter_take (row : List Nat) (p : Nat → Bool) {i : Nat} {x : Nat} (h : row[i]? = some x) : (row.take (i + 1)).filter p = (row.take i).filter p ++ if p x = true then [x] else [] := by
  rw [take_snoc h, List.filter_append]
  cases q : p x <;> simp [q]
theorem lenD {α β : Type} {a : List α} {b : List β} {x y : Nat} (ha : a.length = x) (hb : b.length = y) : decide ((a.length : Int) < (b.length : Int)) = decide (x < y) := by
  rw [ha, hb, Bool.eq_iff_iff]; simp
theorem c_by_degree {l1 : Addr} {vs : List Value} {n1 : Nat} {a : List Nat} {Q : Value → Loc → Led → Prop} (hc : c.Ok w) (hf : f.cs.kind = .function) (hroom : c.dp + 2 < recursionLimit) (h1 : (l1, lst vs n1) ∈ N) (i1 : IntsAre vs (zs a)) (hs : Small a) (hz : a.length ≤ 1000)
    (h : ∀ r ys k N', Sub N N' → (r, lst ys k) ∈ N' → IntsAre ys (zs (byDeg a)) → Q (.ref r) m N') : Sat w c f (call (.ref 315) [.ref l1]) m N Q := by
  refine call_by_degree hc hf (by omega) fun c' hc' hd hu hl' => ?_
  have G := G_by_degree
  have z1 := zs_len i1
  have hvl : vs.length ≤ 16384 := by omega
  refine sat_cons ?_
  walk_at "W"
  rename_i F hF t0
  have hup := upTo_len a hs
  refine sat_weak (N₁ := N ++ [(F, lst [] 0)]) (fun p hp => by
    rcases List.mem_append.mp hp with hp | hp
    · exact .tail _ hp
    · rcases List.mem_cons.mp hp with rfl | hp
      · exact .head _
      · cases hp) ?_
  refine sat_while (fun k m' N0 => ∃ d N' ys kk t tv, d + k = 4 ∧ m' = lk [s "row", s "found", s "degree", s "term"] [some (.ref l1), some (.ref F), some (.int ((d + 1 : Nat) : Int) t), tv] ∧ N0 = N' ++ [(F, lst ys kk)] ∧ Sub N N' ∧ (∀ p ∈ N', p.1 ≠ F) ∧ IntsAre ys (zs (upTo a d)))
    4 ⟨0, N, [], 0, t0, none, rfl, rfl, rfl, Sub.refl _, fun p hp => Nat.ne_of_lt (hF p hp), .nil⟩ ?_
  rintro k m' N0 ⟨d, N', ys, kk, t, tv, hk, rfl, rfl, sN, oF, hI⟩
  have h1' := sN _ h1
  have zy := zs_len hI
  have hul := hup d (by omega)
  have hyl : ys.length ≤ 16384 := by omega
  walk_at "W"
  rw [lenD zy z1]
  by_cases hlt : (upTo a d).length < a.length
  · have hd4 : d < 4 := by
      rcases Nat.lt_or_ge d 4 with q | q
      · exact q
      · have : d = 4 := by omega
        subst this
        rw [upTo_four, deg_row hs] at hlt; omega
    refine br_t (decide_eq_true hlt) ?_
    walk_at "W"
    refine sat_forL ?_ (by intro _; rfl)
    walk_at "W"
    refine ⟨l1, vs, n1, rfl, fun i m' N0 => ∃ N' ys kk tv, m' = lk [s "row", s "found", s "degree", s "term"] [some (.ref l1), some (.ref F), some (.int ((d + 1 : Nat) : Int) t), tv] ∧ N0 = N' ++ [(F, lst ys kk)] ∧ Sub N N' ∧ (∀ p ∈ N', p.1 ≠ F) ∧
        IntsAre ys (zs (upTo a d ++ (a.take i).filter fun t => (mems t).length == d + 1)),
      ⟨N', ys, kk, tv, rfl, rfl, sN, oF, by simpa using hI⟩, ?_, ?_, ?_⟩
    · rintro i m' N0 ⟨N', ys, kk, tv, rfl, rfl, sN, oF, hI⟩
      exact List.mem_append_left _ (sN _ h1)
    · rintro i u m' N0 hu ⟨N', ys, kk, tv, rfl, rfl, sN, oF, hI⟩
      obtain ⟨x, tx, rfl, hx⟩ := zs_at i1 hu
      have hxs := hs x (List.mem_of_getElem? hx)
      have hft := filter_take a (fun t => (mems t).length == d + 1) hx
      have hyl : ys.length ≤ 16384 := by
        have := zs_len hI
        have e1 := List.length_filter_le (fun t => (mems t).length == d + 1) (a.take i)
        rw [List.length_take] at e1
        rw [List.length_append] at this
        omega
      walk_at "W"
      refine sat_frame (off_one oF) (c_members hc' rfl (by omega) hxs.2 fun r ws N2 s2 hr hw o2 => ?_)
      have zw := zs_len hw
      have hwl : ws.length ≤ 16384 := by
        rw [zw]
        have := List.length_filter_le (fun i => x.testBit i) (List.range 4)
        simp only [List.length_range] at this
        unfold mems; omega
      have oF2 := off_of o2
      walk_at "W"
      by_cases he : (mems x).length = d + 1
      · refine br_t (by rw [zw, he]; simp) ?_
        walk_at "W"
        refine p_app (upd_last oF2) hyl ?_
        walk_at "W"
        refine ⟨rfl, ?_⟩
        walk_at "W"
        refine ⟨N2, _, _, _, rfl, rfl, sN.trans s2, oF2, ?_⟩
        rw [hft, if_pos (by simpa using he), ← List.append_assoc]
        exact zs_snoc hI
      · refine br_f (by rw [zw]; simp; omega) ?_
        walk_at "W"
        refine ⟨N2, _, _, _, rfl, rfl, sN.trans s2, oF2, ?_⟩
        rw [hft, if_neg (by simpa using he), List.append_nil]
        exact hI
    · rintro m' N0 ⟨N', ys, kk, tv, rfl, rfl, sN, oF, hI⟩
      rw [List.take_of_length_le (by omega), ← upTo_succ] at hI
      walk_at "W"
      rw [cast_succ]
      exact ⟨k - 1, by omega, d + 1, N', ys, kk, _, _, by omega, rfl, rfl, sN, oF, hI⟩
  · refine br_f (by simpa using hlt) ?_
    walk_at "W"
    refine h _ _ _ _ (fun p hp => List.mem_append_left _ (sN p hp)) (List.mem_append_right _ (.head _)) ?_
    rw [← upTo_le (by omega : d ≤ 4) hs (by omega)]
    exact hI
end
-- the plain side: trees and what the reader makes of them
structure RS where
  vars : List Nat
  icp : Bool
  add : Bool
inductive Op | plus | colon | star | inn | slash | minus
noncomputable def opS : Op → Str
  | .plus => s "+" | .colon => s ":" | .star => s "*" | .inn => s "%in%" | .slash => s "/" | .minus => s "-"
inductive Tr
  | sy (i : Nat)
  | nu (n : Nat)
  | par (x : Tr)
  | neg (x : Tr)
  | bi (o : Op) (x y : Tr)
  | pw (x : Tr) (n : Nat)
noncomputable def Tr.wf : Tr → Prop
  | .sy i => i < 4
  | .nu n => n ≤ 1
  | .par x => x.wf
  | .neg x => x.wf
  | .bi _ x y => x.wf ∧ y.wf
  | .pw x n => x.wf ∧ 1 ≤ n ∧ n ≤ 100
noncomputable def Tr.ht : Tr → Nat
  | .sy _ => 0
  | .nu _ => 0
  | .par x => x.ht + 1
  | .neg x => x.ht + 1
  | .bi _ x y => max x.ht y.ht + 1
  | .pw x _ => x.ht + 1
noncomputable def place (i : Nat) (vars : List Nat) : Nat × List Nat := if i ∈ vars then (vars.idxOf i, vars) else (vars.length, vars ++ [i])
noncomputable def opF : Op → List Nat → List Nat → List Nat
  | .plus, a, b => uni a b
  | .colon, a, b => crs a b
  | .star, a, b => uni (uni a b) (crs a b)
  | .inn, a, b => crs a [joi b]
  | .slash, a, b => uni a (crs b [joi a])
  | .minus, a, b => a.filter fun t => !decide (t ∈ b)
noncomputable def pwr (a : List Nat) (n : Nat) : List Nat := (List.range (min (n - 1) a.length)).foldl (fun f _ => crs f a) a
noncomputable def ev : Tr → RS → List Nat × RS
  | .sy i, st => ([2 ^ (place i st.vars).1], { st with vars := (place i st.vars).2 })
  | .nu n, st => ([], { st with icp := ((n == 1) == st.add) })
  | .par x, st => ev x st
  | .neg x, st => ([], { (ev x { st with add := !st.add }).2 with add := !(ev x { st with add := !st.add }).2.add })
  | .bi .minus x y, st =>
    let a := ev x st
    let b := ev y { a.2 with add := !a.2.add }
    (opF .minus a.1 b.1, { b.2 with add := !b.2.add })
  | .bi o x y, st => (opF o (ev x st).1 (ev y (ev x st).2).1, (ev y (ev x st).2).2)
  | .pw x n, st => (pwr (ev x st).1 n, (ev x st).2)
structure RS.ok (st : RS) : Prop where
  nd : st.vars.Nodup
  lt : ∀ j ∈ st.vars, j < 4
theorem RS.ok.len {st : RS} (h : st.ok) : st.vars.length ≤ 4 := nodup_le 4 _ h.nd h.lt
theorem place_ok {i : Nat} {st : RS} (h : st.ok) (hi : i < 4) : RS.ok { st with vars := (place i st.vars).2 } ∧ (place i st.vars).1 < 4 := by
  unfold place
  split
  · rename_i hm
    exact ⟨⟨h.nd, h.lt⟩, Nat.lt_of_lt_of_le (List.idxOf_lt_length_iff.mpr hm) h.len⟩
  · rename_i hm
    have ok : RS.ok { st with vars := st.vars ++ [i] } := by
      refine ⟨List.nodup_append.mpr ⟨h.nd, by simp, fun a ha b hb e => hm (by have : b = i := by simpa using hb
                                                                              rw [← this, ← e]; exact ha)⟩, fun j hj => ?_⟩
      rcases List.mem_append.mp hj with q | q
      · exact h.lt j q
      · have : j = i := by simpa using q
        omega
    refine ⟨ok, ?_⟩
    have := ok.len
    simp at this
    show st.vars.length < 4
    omega
structure Row (a : List Nat) : Prop where
  sm : Small a
  nd : a.Nodup
theorem Row.len {a : List Nat} (h : Row a) : a.length ≤ 16 := nodup_small h.nd fun t ht => (h.sm t ht).2
theorem Row.nil : Row [] := ⟨(fun _ h => nomatch h), List.nodup_nil⟩
theorem joi_small {a : List Nat} (h : ∀ t ∈ a, t < 16) : joi a < 16 := by
  have : ∀ (a : List Nat) (r : Nat), r < 16 → (∀ t ∈ a, t < 16) → a.foldl (· ||| ·) r < 16 := by
    intro a
    induction a with
    | nil => intro r hr _; exact hr
    | cons x xs ih => intro r hr h; exact ih _ (Nat.or_lt_two_pow (n := 4) hr (h x (.head _))) fun t ht => h t (.tail _ ht)
  exact this a 0 (by decide) h
theorem Row.uni {a b : List Nat} (ha : Row a) (hb : Row b) : Row (uni a b) := ⟨uni_small ha.sm hb.sm, uni_nodup a b⟩
theorem Row.crs {a b : List Nat} (ha : Row a) (hb : ∀ t ∈ b, t < 16) : Row (crs a b) := ⟨crs_small ha.sm hb, crs_nodup a b⟩
theorem Row.filter {a : List Nat} (ha : Row a) (p : Nat → Bool) : Row (a.filter p) := ⟨fun t ht => ha.sm t (List.mem_filter.mp ht).1, ha.nd.filter p⟩
theorem Row.lt {a : List Nat} (ha : Row a) : ∀ t ∈ a, t < 16 := fun t ht => (ha.sm t ht).2
theorem Row.opF {a b : List Nat} (ha : Row a) (hb : Row b) : ∀ o, Row (opF o a b)
  | .plus => ha.uni hb
  | .colon => ha.crs hb.lt
  | .star => (ha.uni hb).uni (ha.crs hb.lt)
  | .inn => ha.crs fun t ht => by
    have : t = joi b := by simpa using ht
    exact this ▸ joi_small hb.lt
  | .slash => ha.uni (hb.crs fun t ht => by
    have : t = joi a := by simpa using ht
    exact this ▸ joi_small ha.lt)
  | .minus => ha.filter _
theorem pwr_row {a : List Nat} (ha : Row a) (k : Nat) : Row ((List.range k).foldl (fun f _ => crs f a) a) := by
  induction k with
  | zero => exact ha
  | succ k ih => rw [List.range_succ, List.foldl_append]; exact ih.crs ha.lt
theorem ev_ok : ∀ (t : Tr) (st : RS), t.wf → st.ok → (ev t st).2.ok ∧ Row (ev t st).1
  | .sy i, st, hw, h => ⟨(place_ok h hw).1, fun t ht => by
      have : t = 2 ^ (place i st.vars).1 := by simpa [ev] using ht
      subst this
      exact ⟨Nat.two_pow_pos _, (Nat.pow_lt_pow_right (by decide : 1 < 2) (place_ok h hw).2 : 2 ^ _ < 2 ^ 4)⟩, by simp [ev]⟩
  | .nu n, st, _, h => ⟨⟨h.nd, h.lt⟩, Row.nil⟩
  | .par x, st, hw, h => ev_ok x st hw h
  | .neg x, st, hw, h => by
    have := (ev_ok x { st with add := !st.add } hw ⟨h.nd, h.lt⟩).1
    exact ⟨⟨this.nd, this.lt⟩, Row.nil⟩
  | .bi .minus x y, st, hw, h => by
    have a := ev_ok x st hw.1 h
    have b := ev_ok y { (ev x st).2 with add := !(ev x st).2.add } hw.2 ⟨a.1.nd, a.1.lt⟩
    exact ⟨⟨b.1.nd, b.1.lt⟩, a.2.filter _⟩
  | .bi .plus x y, st, hw, h => have a := ev_ok x st hw.1 h; have b := ev_ok y (ev x st).2 hw.2 a.1; ⟨b.1, a.2.opF b.2 .plus⟩
  | .bi .colon x y, st, hw, h => have a := ev_ok x st hw.1 h; have b := ev_ok y (ev x st).2 hw.2 a.1; ⟨b.1, a.2.opF b.2 .colon⟩
  | .bi .star x y, st, hw, h => have a := ev_ok x st hw.1 h; have b := ev_ok y (ev x st).2 hw.2 a.1; ⟨b.1, a.2.opF b.2 .star⟩
  | .bi .inn x y, st, hw, h => have a := ev_ok x st hw.1 h; have b := ev_ok y (ev x st).2 hw.2 a.1; ⟨b.1, a.2.opF b.2 .inn⟩
  | .bi .slash x y, st, hw, h => have a := ev_ok x st hw.1 h; have b := ev_ok y (ev x st).2 hw.2 a.1; ⟨b.1, a.2.opF b.2 .slash⟩
  | .pw x n, st, hw, h => have a := ev_ok x st hw.1 h; ⟨a.1, pwr_row a.2 _⟩
noncomputable def nm (i : Nat) : Str := Txt.item (s "abcd") (i : Int)
theorem nm_eq : ∀ i, i < 4 → ∀ j, j < 4 → (nm i == nm j) = (i == j) := fun i hi j hj => by
  have h : ((List.range 4).all fun i => (List.range 4).all fun j => (nm i == nm j) == (i == j)) = true := by decide +kernel
  exact eq_of_beq (List.all_eq_true.mp (List.all_eq_true.mp h i (List.mem_range.mpr hi)) j (List.mem_range.mpr hj))
theorem nm_dot : ∀ i, i < 4 → (nm i == s ".") = false := fun i hi => by
  have h : ((List.range 4).all fun i => (nm i == s ".") == false) = true := by decide +kernel
  exact eq_of_beq (List.all_eq_true.mp h i (List.mem_range.mpr hi))
inductive VarsAt (N : Led) : List Value → List Nat → Prop
  | nil : VarsAt N [] []
  | cons {v : Value} {i : Nat} {vs : List Value} {is : List Nat} : SymAt N v (nm i) → VarsAt N vs is → VarsAt N (v :: vs) (i :: is)
theorem VarsAt.sub {N N' : Led} {vs : List Value} {is : List Nat} (h : VarsAt N vs is) (k : Sub N N') : VarsAt N' vs is := by
  induction h with
  | nil => exact .nil
  | cons a _ ih => exact .cons (a.sub k) ih
theorem VarsAt.len {N : Led} {vs : List Value} {is : List Nat} (h : VarsAt N vs is) : vs.length = is.length := by
  induction h with
  | nil => rfl
  | cons _ _ ih => simp [ih]
theorem VarsAt.snoc {N : Led} {vs : List Value} {is : List Nat} {v : Value} {i : Nat} (h : VarsAt N vs is) (hv : SymAt N v (nm i)) : VarsAt N (vs ++ [v]) (is ++ [i]) := by
  induction h with
  | nil => exact .cons hv .nil
  | cons a _ ih => exact .cons a ih
theorem VarsAt.at {N : Led} {vs : List Value} {is : List Nat} (h : VarsAt N vs is) : ∀ {j : Nat} {i : Nat}, is[j]? = some i → ∃ v, vs[j]? = some v ∧ SymAt N v (nm i) := by
  induction h with
  | nil => intro j i h; simp at h
  | cons a _ ih =>
    intro j i h
    cases j with
    | zero => simp at h; subst h; exact ⟨_, rfl, a⟩
    | succ j => exact ih (by simpa using h)
noncomputable def RdAt (N G : Led) (rx : Addr) (st : RS) : Prop := ∃ rd es vl vs k, G = [(rd, dictOf es 5), (vl, lst vs k)] ∧ (rx, instObj 379 rd) ∈ N ∧ rd ≠ vl ∧ Flds es fsTermReader [.none, .none, .ref vl, .bool st.icp, .bool st.add] ∧ VarsAt N vs st.vars
theorem RdAt.sub {N N' G : Led} {rx : Addr} {st : RS} (h : RdAt N G rx st) (k : Sub N N') : RdAt N' G rx st := by
  obtain ⟨rd, es, vl, vs, n, a, b, c, d, e⟩ := h
  exact ⟨rd, es, vl, vs, n, a, k _ b, c, d, e.sub k⟩
theorem sub_l {N N' G : Led} (h : Sub N N') : Sub N (N' ++ G) := fun p hp => List.mem_append_left _ (h p hp)
theorem off_2 {N : Led} {a b : Addr} {o o' : Obj} (h1 : ∀ p ∈ N, p.1 ≠ a) (h2 : ∀ p ∈ N, p.1 ≠ b) : Off N [(a, o), (b, o')] := fun p hp q hq => by
  rcases List.mem_cons.mp hq with rfl | hq
  · exact h1 p hp
  · rcases List.mem_cons.mp hq with rfl | hq
    · exact h2 p hp
    · cases hq
theorem off_fst {N : Led} {a b : Addr} {o o' : Obj} (h : Off N [(a, o), (b, o')]) : ∀ p ∈ N, p.1 ≠ a := fun p hp => h p hp _ (.head _)
theorem off_snd {N : Led} {a b : Addr} {o o' : Obj} (h : Off N [(a, o), (b, o')]) : ∀ p ∈ N, p.1 ≠ b := fun p hp => h p hp _ (.tail _ (.head _))
theorem upd_fst {a b : Addr} {o o' u : Obj} {N : Led} (O : ∀ p ∈ N, p.1 ≠ a) (h : a ≠ b) : Upd a o o' (N ++ [(a, o), (b, u)]) (N ++ [(a, o'), (b, u)]) := by
  induction N with
  | nil =>
    refine .head fun p hp => ?_
    rcases List.mem_cons.mp hp with rfl | hp
    · exact h.symm
    · cases hp
  | cons p N ih => exact .tail (O p (.head _)) (ih fun q hq => O q (.tail _ hq))
theorem upd_snd {a b : Addr} {o o' u : Obj} {N : Led} (O : ∀ p ∈ N, p.1 ≠ b) (h : a ≠ b) : Upd b o o' (N ++ [(a, u), (b, o)]) (N ++ [(a, u), (b, o')]) := by
  induction N with
  | nil => exact .tail h (.head fun p hp => by cases hp)
  | cons p N ih => exact .tail (O p (.head _)) (ih fun q hq => O q (.tail _ hq))
section
variable {w : World} {c : Fx} {f : Fn} {m : Loc} {N : Led}
theorem c_Reader {Q : Value → Loc → Led → Prop} (hc : c.Ok w) (hf : f.cs.kind = .function) (hroom : c.dp + 1 < recursionLimit)
    (h : ∀ x dx vl es, (∀ p ∈ N, p.1 < dx) → dx < x → x < vl → Flds es fsTermReader [.none, .none, .ref vl, .bool true, .bool true] → Q (.ref x) m ((vl, lst [] 0) :: (x, instObj 379 dx) :: (dx, dictOf es 5) :: N)) : Sat w c f (call (.ref 379) [.none, .none]) m N Q := by
  refine new_TermReader hc hf hroom fun x dx h1 h2 c' hc' hd hl => ?_
  have G := G_rdI
  refine sat_cons ?_
  walk_at "W"
  refine sat_init hc' (aTermReader_response _) .nil h1 h2 (by decide +kernel) (by decide) fun e1 F1 => ?_
  walk_at "W"
  refine sat_init hc' (aTermReader_names _) F1 h1 h2 (by decide +kernel) (by decide) fun e2 F2 => ?_
  walk_at "W"
  rename_i vl hvl
  have v1 : vl ≠ dx := Nat.ne_of_gt (Nat.lt_trans h2 (hvl _ (.head _)))
  have U : ∀ (o o' : Obj), Upd dx o o' ((vl, lst [] 0) :: (x, instObj 379 dx) :: (dx, o) :: N) ((vl, lst [] 0) :: (x, instObj 379 dx) :: (dx, o') :: N) := fun o o' => .tail v1 (.tail (Nat.ne_of_gt h2) (.head fun p hp => Nat.ne_of_lt (h1 p hp)))
  refine sat_setNew (N₁ := fun es' => (vl, lst [] 0) :: (x, instObj 379 dx) :: (dx, dictOf es' 3) :: N) hc' (aTermReader_variables _) (.tail _ (.head _)) F2 (by decide +kernel) (by decide) (fun es' => U _ _) fun e3 F3 => ?_
  walk_at "W"
  refine sat_setNew (N₁ := fun es' => (vl, lst [] 0) :: (x, instObj 379 dx) :: (dx, dictOf es' 4) :: N) hc' (aTermReader_intercept _) (.tail _ (.head _)) F3 (by decide +kernel) (by decide) (fun es' => U _ _) fun e4 F4 => ?_
  walk_at "W"
  refine sat_setNew (N₁ := fun es' => (vl, lst [] 0) :: (x, instObj 379 dx) :: (dx, dictOf es' 5) :: N) hc' (aTermReader_adding _) (.tail _ (.head _)) F4 (by decide +kernel) (by decide) (fun es' => U _ _) fun e5 F5 => ?_
  walk_at "W"
  exact ⟨rfl, h _ _ _ _ h1 h2 (hvl _ (.head _)) F5⟩
theorem rd_meth {name : Str} {g : Addr} {rx : Addr} {N G N₀ : Led} {st : RS} {pl : Sem Bool} {Q : Value × List Value → Loc → Led → Prop} (hc : c.Ok w) (ha : methIn (KF w.params) 379 name g = true) (hk : name ∉ fsTermReader) (hr : RdAt N G rx st) (hN : ∀ p ∈ N ++ G, p ∈ N₀)
    (h : keepIn (KF w.params) (.ref g) = true → Q (.ref g, [.ref rx]) m N₀) : Sat w c f (getMethod (.ref rx) name pl) m N₀ Q := by
  obtain ⟨rd, es, vl, vs, n, rfl, b, _, d, e⟩ := hr
  have := ha
  simp only [methIn, Bool.and_eq_true] at this
  exact sat_getMethod hc ha (hN _ (List.mem_append_left _ b)) (hN _ (List.mem_append_right _ (.head _))) d hk (h this.2)
theorem rd_get {rx : Addr} {N G N₀ : Led} {st : RS} {x : Bool} {Q : Value → Loc → Led → Prop} {name : Str} (hc : c.Ok w) (hr : RdAt N G rx st) (hN : ∀ p ∈ N ++ G, p ∈ N₀) (ha : attrIn (KF w.params) 379 name = true) (i : Nat) (hi : fsTermReader[i]? = some name)
    (h : ∀ rd es vl vs k v, G = [(rd, dictOf es 5), (vl, lst vs k)] → VarsAt N vs st.vars → ([.none, .none, .ref vl, .bool st.icp, .bool st.add] : List Value)[i]? = some v → (handedIn v = true ∧ Q v m N₀)) : i < 5 → Sat w c f (getAttr (.ref rx) name x) m N₀ Q := by
  intro h5
  obtain ⟨rd, es, vl, vs, n, rfl, b, _, d, e⟩ := hr
  have hv : ([.none, .none, .ref vl, .bool st.icp, .bool st.add] : List Value)[i]? = some (([.none, .none, .ref vl, .bool st.icp, .bool st.add] : List Value)[i]'h5) := List.getElem?_eq_getElem h5
  obtain ⟨h1, h2⟩ := h rd es vl vs n _ rfl e hv
  exact sat_get hc ha i (hN _ (List.mem_append_left _ b)) (hN _ (List.mem_append_right _ (.head _))) d ndTermReader hi hv h1 h2
theorem rd_vars {rx : Addr} {N G N₀ : Led} {st : RS} {x : Bool} {Q : Value → Loc → Led → Prop} (hc : c.Ok w) (hr : RdAt N G rx st) (hN : ∀ p ∈ N ++ G, p ∈ N₀)
    (h : ∀ rd es vl vs k, G = [(rd, dictOf es 5), (vl, lst vs k)] → VarsAt N vs st.vars → Q (.ref vl) m N₀) : Sat w c f (getAttr (.ref rx) (s "variables") x) m N₀ Q :=
  rd_get hc hr hN (aTermReader_variables _) 2 rfl (fun rd es vl vs k v e1 e2 e3 => by cases e3; exact ⟨rfl, h rd es vl vs k e1 e2⟩) (by decide)
theorem rd_icp {rx : Addr} {N G N₀ : Led} {st : RS} {x : Bool} {Q : Value → Loc → Led → Prop} (hc : c.Ok w) (hr : RdAt N G rx st) (hN : ∀ p ∈ N ++ G, p ∈ N₀) (h : Q (.bool st.icp) m N₀) : Sat w c f (getAttr (.ref rx) (s "intercept") x) m N₀ Q :=
  rd_get hc hr hN (aTermReader_intercept _) 3 rfl (fun rd es vl vs k v e1 e2 e3 => by cases e3; exact ⟨rfl, h⟩) (by decide)
theorem rd_add {rx : Addr} {N G N₀ : Led} {st : RS} {x : Bool} {Q : Value → Loc → Led → Prop} (hc : c.Ok w) (hr : RdAt N G rx st) (hN : ∀ p ∈ N ++ G, p ∈ N₀) (h : Q (.bool st.add) m N₀) : Sat w c f (getAttr (.ref rx) (s "adding") x) m N₀ Q :=
  rd_get hc hr hN (aTermReader_adding _) 4 rfl (fun rd es vl vs k v e1 e2 e3 => by cases e3; exact ⟨rfl, h⟩) (by decide)
/-- a flag is set; X: what stands behind the reader's own cells -/
theorem rd_setIcp {rx : Addr} {G X : Led} {st : RS} {b : Bool} {Q : Unit → Loc → Led → Prop} (hc : c.Ok w) (hr : RdAt N G rx st) (o : Off N G) (oX : Off G X)
    (h : ∀ G', RdAt N G' rx { st with icp := b } → Off N G' → G'.map (·.1) = G.map (·.1) → Q () m (N ++ G' ++ X)) : Sat w c f (setAttr (.ref rx) (s "intercept") (.bool b)) m (N ++ G ++ X) Q := by
  obtain ⟨rd, es, vl, vs, n, rfl, hx, hne, d, e⟩ := hr
  refine sat_setOld (N₁ := fun es' => N ++ [(rd, dictOf es' 5), (vl, lst vs n)] ++ X) hc (aTermReader_intercept _) 3 (List.mem_append_left _ (List.mem_append_left _ hx)) d ndTermReader rfl (by decide) (by simp) (fun es' => upd_app (upd_fst (off_fst o) hne) fun q hq => (oX _ (.head _) q hq).symm) fun es' F => ?_
  exact h _ ⟨rd, es', vl, vs, n, rfl, hx, hne, F, e⟩ (off_2 (off_fst o) (off_snd o)) rfl
theorem rd_setAdd {rx : Addr} {G X : Led} {st : RS} {b : Bool} {Q : Unit → Loc → Led → Prop} (hc : c.Ok w) (hr : RdAt N G rx st) (o : Off N G) (oX : Off G X)
    (h : ∀ G', RdAt N G' rx { st with add := b } → Off N G' → G'.map (·.1) = G.map (·.1) → Q () m (N ++ G' ++ X)) : Sat w c f (setAttr (.ref rx) (s "adding") (.bool b)) m (N ++ G ++ X) Q := by
  obtain ⟨rd, es, vl, vs, n, rfl, hx, hne, d, e⟩ := hr
  refine sat_setOld (N₁ := fun es' => N ++ [(rd, dictOf es' 5), (vl, lst vs n)] ++ X) hc (aTermReader_adding _) 4 (List.mem_append_left _ (List.mem_append_left _ hx)) d ndTermReader rfl (by decide) (by simp) (fun es' => upd_app (upd_fst (off_fst o) hne) fun q hq => (oX _ (.head _) q hq).symm) fun es' F => ?_
  exact h _ ⟨rd, es', vl, vs, n, rfl, hx, hne, F, e⟩ (off_2 (off_fst o) (off_snd o)) rfl
theorem rd_setIcp0 {rx : Addr} {G : Led} {st : RS} {b : Bool} {Q : Unit → Loc → Led → Prop} (hc : c.Ok w) (hr : RdAt N G rx st) (o : Off N G)
    (h : ∀ G', RdAt N G' rx { st with icp := b } → Off N G' → Q () m (N ++ G')) : Sat w c f (setAttr (.ref rx) (s "intercept") (.bool b)) m (N ++ G) Q := by
  have := rd_setIcp (X := []) (b := b) (Q := Q) (c := c) (w := w) (f := f) (m := m) hc hr o (fun p _ q hq => nomatch hq) fun G' a b' _ => by rw [List.append_nil]; exact h G' a b'
  rwa [List.append_nil] at this
end
theorem idx_first : ∀ (l : List Nat) (i x : Nat), l[i]? = some x → x ∉ l.take i → l.idxOf x = i
  | [], _, _, h, _ => by simp at h
  | y :: l, 0, x, h, _ => by simp at h; subst h; simp
  | y :: l, i + 1, x, h, hn => by
    simp only [List.take_succ_cons, List.mem_cons, not_or] at hn
    have := idx_first l i x (by simpa using h) hn.2
    rw [List.idxOf_cons, this]
    have : (y == x) = false := by simpa using fun e => hn.1 e.symm
    simp [this]
section
variable {w : World} {c : Fx} {f : Fn} {m : Loc} {N : Led}
theorem off_new {N G : Led} {a : Addr} {o : Obj} (h : Off N G) (k : ∀ p ∈ N ++ G, p.1 < a) : Off ((a, o) :: N) G := Off.cons h k
theorem c_variable {G : Led} {rx : Addr} {st : RS} {v : Value} {i : Nat} {Q : Value → Loc → Led → Prop} (hc : c.Ok w) (hf : f.cs.kind = .function) (hroom : c.dp + 4 < recursionLimit) (hi : i < 4) (hv : SymAt N v (nm i)) (hr : RdAt N G rx st) (hok : st.ok) (o : Off N G)
    (h : ∀ N' G' t, Sub N N' → RdAt N' G' rx { st with vars := (place i st.vars).2 } → Off N' G' → Q (.int ((place i st.vars).1 : Nat) t) m (N' ++ G')) : Sat w c f (call (.ref 336) [.ref rx, v]) m (N ++ G) Q := by
  refine call_variable hc hf (by omega) fun c' hc' hd hu hl' => ?_
  have GG := G_variable
  obtain ⟨rd, es, vl, vs, k, rfl, hx, hne, hF, hV⟩ := hr
  have hvl := hV.len
  have hlen := hok.len
  have hvz : vs.length ≤ 16384 := by omega
  refine sat_cons ?_
  walk_at "W"
  refine sat_forR ?_ (by intro _; rfl)
  walk_at "W"
  refine sat_get hc' (aTermReader_variables _) 2 (by walk_at "mem") (by walk_at "mem") hF ndTermReader rfl rfl rfl ?_
  walk_at "W"
  refine p_range fun r t1 t2 t3 hr => ?_
  refine ⟨r, vs.length, t1, t2, t3, rfl, by omega, .head _, fun j m' N0 => N0 = (r, rng vs.length t1 t2 t3) :: (N ++ [(rd, dictOf es 5), (vl, lst vs k)]) ∧ (∃ tv, m' = lk [s "self", s "e", s "place"] [some (.ref rx), some v, tv]) ∧ i ∉ st.vars.take j,
    ⟨rfl, ⟨_, rfl⟩, by simp⟩, ?_, ?_⟩
  · rintro j t m' N0 hj ⟨rfl, ⟨tv, rfl⟩, hnot⟩
    have hj' : j < st.vars.length := by omega
    have hjv : st.vars[j]? = some st.vars[j] := by simp [hj']
    obtain ⟨u, hu, hus⟩ := hV.at hjv
    have hu4 : st.vars[j] < 4 := hok.lt _ (List.getElem_mem hj')
    walk_at "W"
    refine sat_get hc' (aTermReader_variables _) 2 (by walk_at "mem") (by walk_at "mem") hF ndTermReader rfl rfl rfl ?_
    walk_at "W"
    refine p_item (vs := vs) (n := k) (v := u) (by walk_at "mem") (by omega) (by omega) (by simpa using hu) ?_ (by with_unfolding_all rfl)
    walk_at "W"
    have sb : Sub N ((r, rng vs.length t1 t2 t3) :: (N ++ [(rd, dictOf es 5), (vl, lst vs k)])) := fun p hp => .tail _ (List.mem_append_left _ hp)
    refine c_same hc' rfl (by omega) (hus.sub sb) (hv.sub sb) ?_
    rw [nm_eq _ hu4 _ hi]
    walk_at "W"
    by_cases e : st.vars[j] = i
    · refine br_t (by simpa using e) ?_
      walk_at "W"
      have hp : place i st.vars = (j, st.vars) := by
        rw [e] at hjv
        unfold place
        rw [if_pos (List.mem_of_getElem? hjv), idx_first _ _ _ hjv hnot]
      rw [hp] at h
      exact h ((r, rng vs.length t1 t2 t3) :: N) [(rd, dictOf es 5), (vl, lst vs k)] t (Sub.refl _).one ⟨rd, es, vl, vs, k, rfl, .tail _ hx, hne, hF, hV.sub (Sub.refl _).one⟩ (off_new o hr)
    · refine br_f (by simpa using e) ?_
      walk_at "W"
      refine ⟨rfl, ⟨_, rfl⟩, ?_⟩
      rw [take_snoc hjv]
      simp only [List.mem_append, List.mem_singleton, not_or]
      exact ⟨hnot, fun q => e q.symm⟩
  · rintro m' N0 ⟨rfl, ⟨tv, rfl⟩, hnot⟩
    rw [List.take_of_length_le (by omega)] at hnot
    have hp : place i st.vars = (st.vars.length, st.vars ++ [i]) := by unfold place; rw [if_neg hnot]
    rw [hp] at h
    have o2 : Off ((r, rng vs.length t1 t2 t3) :: N) [(rd, dictOf es 5), (vl, lst vs k)] := off_new o hr
    walk_at "W"
    refine sat_get hc' (aTermReader_variables _) 2 (by walk_at "mem") (by walk_at "mem") hF ndTermReader rfl rfl rfl ?_
    walk_at "W"
    refine p_app (upd_snd (N := (r, rng vs.length t1 t2 t3) :: N) (off_snd o2) hne) hvz ?_
    walk_at "W"
    refine ⟨rfl, ?_⟩
    walk_at "W"
    refine sat_get hc' (aTermReader_variables _) 2 (by walk_at "mem") (by walk_at "mem") hF ndTermReader rfl rfl rfl ?_
    have hvz2 : (vs ++ [v]).length ≤ 16384 := by simp; omega
    walk_at "W"
    have e1 : (((vs ++ [v]).length : Nat) : Int) - 1 = ((st.vars.length : Nat) : Int) := by simp; omega
    rw [e1]
    exact h ((r, rng vs.length t1 t2 t3) :: N) [(rd, dictOf es 5), (vl, lst (vs ++ [v]) (k + 1))] _ (Sub.refl _).one ⟨rd, es, vl, _, _, rfl, .tail _ hx, hne, hF, (hV.sub (Sub.refl _).one).snoc (hv.sub (Sub.refl _).one)⟩ (off_2 (off_fst o2) (off_snd o2))
theorem c_constant {G : Led} {rx : Addr} {st : RS} {n : Nat} {t : Tok} {Q : Value → Loc → Led → Prop} (hc : c.Ok w) (hf : f.cs.kind = .function) (hroom : c.dp + 4 < recursionLimit) (hn : n ≤ 1) (hr : RdAt N G rx st) (o : Off N G)
    (h : ∀ N' G' l, Sub N N' → RdAt N' G' rx { st with icp := ((n == 1) == st.add) } → Off N' G' → (l, lst [] 0) ∈ N' → Q (.ref l) m (N' ++ G')) : Sat w c f (call (.ref 343) [.ref rx, .int (n : Int) t]) m (N ++ G) Q := by
  refine call_constant hc hf (by omega) fun c' hc' hd hu hl' => ?_
  have GG := G_constant
  refine sat_cons ?_
  walk_at "W"
  have hin : ([(0 : Int), 1].any (· == (n : Int))) = true := by
    have : n = 0 ∨ n = 1 := by omega
    rcases this with rfl | rfl <;> rfl
  refine br_f (by rw [hin]; decide) ?_
  walk_at "W"
  rename_i u1 u2 l hl _t
  refine rd_add hc' hr (fun _ h => .tail _ h) ?_
  walk_at "W"
  have e1 : ((n : Int) == 1) = (n == 1) := by rw [Bool.eq_iff_iff]; simp; omega
  rw [e1]
  have o2 := off_new (o := tup [Value.int 0 u1, Value.int 1 u2]) o hl
  refine rd_setIcp0 (N := (l, tup [Value.int 0 u1, Value.int 1 u2]) :: N) hc' (hr.sub (Sub.refl _).one) o2 fun G' hr' o' => ?_
  walk_at "W"
  rename_i l2 hl2
  exact h ((l2, lst [] 0) :: (l, tup [Value.int 0 u1, Value.int 1 u2]) :: N) G' l2 (Sub.refl _).one.one (hr'.sub (Sub.refl _).one) (off_new o' hl2) (.head _)
end
noncomputable def Rep (N : Led) : Value → Tr → Prop
  | v, .sy i => SymAt N v (nm i)
  | v, .nu n => VecAt N v (n : Int)
  | v, .par x => ∃ a, CallAt N v (s "(") [a] ∧ Rep N a x
  | v, .neg x => ∃ a, CallAt N v (s "-") [a] ∧ Rep N a x
  | v, .bi o x y => ∃ a b, CallAt N v (opS o) [a, b] ∧ Rep N a x ∧ Rep N b y
  | v, .pw x n => ∃ a b, CallAt N v (s "^") [a, b] ∧ Rep N a x ∧ VecAt N b (n : Int)
theorem Rep.sub {N N' : Led} (k : Sub N N') : ∀ {t : Tr} {v : Value}, Rep N v t → Rep N' v t
  | .sy _, _, h => SymAt.sub h k
  | .nu _, _, h => VecAt.sub h k
  | .par _, _, ⟨a, h, r⟩ => ⟨a, h.sub k, Rep.sub k r⟩
  | .neg _, _, ⟨a, h, r⟩ => ⟨a, h.sub k, Rep.sub k r⟩
  | .bi _ _ _, _, ⟨a, b, h, r, q⟩ => ⟨a, b, h.sub k, Rep.sub k r, Rep.sub k q⟩
  | .pw _ _, _, ⟨a, b, h, r, q⟩ => ⟨a, b, h.sub k, Rep.sub k r, q.sub k⟩
theorem CallAt.ref {N : Led} {v : Value} {op : Str} {args : List Value} (h : CallAt N v op args) : ∃ a, v = .ref a := let ⟨x, _, _, _, _, _, _, _, _, e, _⟩ := h; ⟨x, e⟩
theorem Rep.ref {N : Led} : ∀ {t : Tr} {v : Value}, Rep N v t → ∃ a, v = .ref a
  | .sy _, _, h => let ⟨x, _, _, _, _, _, e, _⟩ := h; ⟨x, e⟩
  | .nu _, _, h => let ⟨x, _, _, _, _, _, _, _, _, _, e, _⟩ := h; ⟨x, e⟩
  | .par _, _, ⟨_, h, _⟩ => h.ref
  | .neg _, _, ⟨_, h, _⟩ => h.ref
  | .bi _ _ _, _, ⟨_, _, h, _, _⟩ => h.ref
  | .pw _ _, _, ⟨_, _, h, _, _⟩ => h.ref
section
variable {w : World} {c : Fx} {f : Fn} {m : Loc} {N : Led}
theorem sat_out {α : Type} {t : Sem α} {Q : α → Loc → Led → Prop} (h : Sat w c f t m N fun a m' N' => ∃ N₂, (∀ p ∈ N₂, p ∈ N') ∧ Q a m' N₂) : Sat w c f t m N Q := fun s M R F X O hR =>
  h s M R F X O fun a m' N' h' tk' q F' X' O' => by
    obtain ⟨N₂, k, q⟩ := q
    exact hR a m' N₂ h' tk' q F' (fun p hp => X' p ((List.mem_append.mp hp).elim (fun q => List.mem_append_left _ (k p q)) fun q => List.mem_append_right _ q)) (O'.sub k)
noncomputable def ReadOk (w : World) (x : Tr) : Prop := ∀ (c : Fx) (f : Fn) (m : Loc) (N G : Led) (rx : Addr) (st : RS) (v : Value) (Q : Value → Loc → Led → Prop), c.Ok w → f.cs.kind = .function → c.dp + (3 * x.ht + 8) < recursionLimit → Rep N v x → x.wf → RdAt N G rx st → st.ok → Off N G →
  (∀ N' G' l ys k, Sub N N' → RdAt N' G' rx (ev x st).2 → Off N' G' → (l, lst ys k) ∈ N' → IntsAre ys (zs (ev x st).1) → Q (.ref l) m (N' ++ G')) → Sat w c f (call (.ref 376) [.ref rx, v]) m (N ++ G) Q
theorem taken_tail {x : Tr} {G : Led} {rx : Addr} {st : RS} {lv b : Value} {lr : Addr} {rs : List Value} {kr : Nat} {a : List Nat} {ca : Addr} {co : Obj} {Q : Value → Loc → Led → Prop} (hx : ReadOk w x) (hc : c.Ok w) (hroom : c.dp + (3 * x.ht + 8) < recursionLimit) (hcl : c.cl = [(s "away", ca)]) (hb : Rep N b x) (hw : x.wf)
    (hr : RdAt N G rx st) (hok : st.ok) (o : Off N G) (oc : Off (N ++ G) [(ca, co)]) (hco : co.data = .cell none) (hl : (lr, lst rs kr) ∈ N) (hI : IntsAre rs (zs a)) (hz : a.length ≤ 100)
    (h : ∀ N' G' l ys k, Sub N N' → RdAt N' G' rx { (ev x { st with add := !st.add }).2 with add := !(ev x { st with add := !st.add }).2.add } → Off N' G' → (l, lst ys k) ∈ N' → IntsAre ys (zs (opF .minus a (ev x { st with add := !st.add }).1)) → Q (.ref l) m (N' ++ G')) :
    Sat w c fn_taken (execs (bd_taken.drop 1) (c.env fn_taken)) (lk [s "self", s "left", s "right", s "row"] [some (.ref rx), some lv, some b, some (.ref lr)]) (N ++ G ++ [(ca, co)]) fun fl _ N' => ∃ N₂, (∀ p ∈ N₂, p ∈ N') ∧ Q (match fl with | .ret v => v | _ => .none) m N₂ := by
  have GG := G_taken
  refine sat_cons ?_
  walk_at "W"
  refine rd_add hc hr (fun _ h => List.mem_append_left _ h) ?_
  walk_at "W"
  refine rd_setAdd hc hr o (fun p hp => oc p (List.mem_append_right _ hp)) fun G1 hr1 o1 e1 => ?_
  walk_at "W"
  refine rd_meth hc (m_read _) (by decide +kernel) hr1 (fun _ h => List.mem_append_left _ h) fun hk => ⟨hk, ?_⟩
  walk_at "W"
  have oc1 : Off (N ++ G1) [(ca, co)] := off_map (by rw [List.map_append, List.map_append, e1]) oc
  refine sat_frame oc1 (hx _ _ _ N G1 rx _ b _ hc rfl (by omega) hb hw hr1 ⟨hok.nd, hok.lt⟩ o1 fun N2 G2 l2 ys2 k2 s2 hr2 o2 hm2 hI2 oc2 => ?_)
  refine sat_stC (a := ca) (v₀ := none) GG cell_taken (by rw [hcl]; rfl) oc2 hco fun co3 hco3 => ?_
  have oc3 : Off (N2 ++ G2) [(ca, co3)] := off_one (off_of oc2)
  have row2 := (ev_ok x { st with add := !st.add } hw ⟨hok.nd, hok.lt⟩)
  generalize ev x { st with add := !st.add } = E at *
  walk_at "W"
  refine rd_add hc hr2 (fun _ h => List.mem_append_left _ h) ?_
  walk_at "W"
  refine rd_setAdd hc hr2 o2 (fun p hp => oc3 p (List.mem_append_right _ hp)) fun G4 hr4 o4 e4 => ?_
  have oc4 : Off (N2 ++ G4) [(ca, co3)] := off_map (by rw [List.map_append, List.map_append, e4]) oc3
  walk_at "W"
  refine sat_comp (cl := [(s "away", ca)]) ?hclos (compOk_of (by decide +kernel)) ?_ (by intro _; rfl)
  case hclos =>
    unfold Fx.env
    rw [hcl]
    kernel_rfl
  have hz1 := zs_len hI
  walk_at "W"
  refine ⟨lr, rs, kr, rfl, by omega, fun i ys N0 => N0 = N2 ++ G4 ++ [(ca, co3)] ∧ IntsAre ys (zs ((a.take i).filter fun t => !decide (t ∈ E.1))), ⟨rfl, .nil⟩, ?_, ?_, ?_⟩
  · rintro i ys N0 ⟨rfl, _⟩
    exact List.mem_append_left _ (List.mem_append_left _ (s2 _ hl))
  · rintro i u ys N0 C cob hu ⟨rfl, hJ⟩ hB hoff
    obtain ⟨y, ty, rfl, hy⟩ := zs_at hI hu
    have hft : (a.take (i + 1)).filter (fun t => !decide (t ∈ E.1)) = (a.take i).filter (fun t => !decide (t ∈ E.1)) ++ if (!decide (y ∈ E.1)) = true then [y] else [] := by
      rw [take_snoc hy, List.filter_append]
      by_cases q : y ∈ E.1 <;> simp [q]
    have hcm : (C, cob) ∈ N2 ++ G4 ++ [(ca, co3)] ++ [(C, cob)] := List.mem_append_right _ (.head _)
    refine sat_ifs1 ?_
    walk_at "W"
    refine sat_cv (compOk_of (by decide +kernel)) hcm hB ?_
    refine sat_cc rfl (by kernel_rfl) (by rfl) (List.mem_append_left _ (List.mem_append_right _ (.head _))) hco3 ?_
    refine p_ninN (List.mem_append_left _ (List.mem_append_left _ (List.mem_append_left _ hm2))) hI2 ?_
    refine ⟨_, rfl, rfl, N2 ++ G4 ++ [(ca, co3)], rfl, hoff, ?_⟩
    by_cases q : y ∈ E.1
    · refine br_f (by simp [q]) ⟨rfl, ?_⟩
      rw [hft, if_neg (by simp [q]), List.append_nil]; exact hJ
    · refine br_t (by simp [q]) (sat_cv (compOk_of (by decide +kernel)) hcm hB ⟨rfl, _, rfl, hoff, rfl, ?_⟩)
      rw [hft, if_pos (by simp [q])]; exact zs_snoc hJ
  · rintro D ys k N0 ⟨rfl, hJ⟩ hne hlen
    have z2 : rs.length = a.length := hz1
    rw [List.take_of_length_le (by omega)] at hJ
    refine ⟨((D, lst ys k) :: N2) ++ G4, fun p hp => ?_, ?_⟩
    · rcases List.mem_append.mp hp with hp | hp
      · rcases List.mem_cons.mp hp with rfl | hp
        · exact .head _
        · exact .tail _ (List.mem_append_left _ (List.mem_append_left _ hp))
      · exact .tail _ (List.mem_append_left _ (List.mem_append_right _ hp))
    · refine h ((D, lst ys k) :: N2) G4 D ys k s2.one (hr4.sub (Sub.refl _).one) (fun p hp q hq => ?_) (.head _) hJ
      rcases List.mem_cons.mp hp with rfl | hp
      · exact (hne q (List.mem_append_left _ (List.mem_append_right _ hq))).symm
      · exact o4 p hp q hq
end
section
variable {w : World} {c : Fx} {f : Fn} {m : Loc} {N : Led}
theorem c_taken2 {x y : Tr} {G : Led} {rx : Addr} {st : RS} {a b : Value} {Q : Value → Loc → Led → Prop} (hx : ReadOk w x) (hy : ReadOk w y) (hc : c.Ok w) (hf : f.cs.kind = .function) (hroom : c.dp + (3 * max x.ht y.ht + 9) < recursionLimit) (ha : Rep N a x) (hb : Rep N b y) (hwx : x.wf) (hwy : y.wf)
    (hr : RdAt N G rx st) (hok : st.ok) (o : Off N G)
    (h : ∀ N' G' l ys k, Sub N N' → RdAt N' G' rx (ev (.bi .minus x y) st).2 → Off N' G' → (l, lst ys k) ∈ N' → IntsAre ys (zs (ev (.bi .minus x y) st).1) → Q (.ref l) m (N' ++ G')) : Sat w c f (call (.ref 355) [.ref rx, a, b]) m (N ++ G) Q := by
  refine sat_out ?_
  refine call_taken hc hf (by omega) fun c' ca co hc' hd hu hcl hco hlt => ?_
  have GG := G_taken
  have oc : Off (N ++ G) [(ca, co)] := off_one fun p hp => Nat.ne_of_lt (hlt p hp)
  obtain ⟨aa, rfl⟩ := ha.ref
  refine sat_cons ?_
  walk_at "W"
  refine rd_meth hc' (m_read _) (by decide +kernel) hr (fun _ h => List.mem_append_left _ h) fun hk => ⟨hk, ?_⟩
  walk_at "W"
  refine sat_frame oc (hx _ _ _ N G rx _ _ _ hc' rfl (by omega) ha hwx hr hok o fun N2 G2 l2 ys2 k2 s2 hr2 o2 hm2 hI2 oc2 => ?_)
  walk_at "sto"
  have r2 := ev_ok x st hwx hok
  have := r2.2.len
  exact taken_tail (x := y) hy hc' (by omega) hcl (hb.sub s2) hwy hr2 r2.1 o2 oc2 hco hm2 hI2 (by omega) fun N3 G3 l ys k s3 hr3 o3 hm3 hI3 => h N3 G3 l ys k (s2.trans s3) hr3 o3 hm3 hI3
theorem c_taken1 {y : Tr} {G : Led} {rx : Addr} {st : RS} {b : Value} {Q : Value → Loc → Led → Prop} (hy : ReadOk w y) (hc : c.Ok w) (hf : f.cs.kind = .function) (hroom : c.dp + (3 * y.ht + 9) < recursionLimit) (hb : Rep N b y) (hwy : y.wf)
    (hr : RdAt N G rx st) (hok : st.ok) (o : Off N G)
    (h : ∀ N' G' l ys k, Sub N N' → RdAt N' G' rx (ev (.neg y) st).2 → Off N' G' → (l, lst ys k) ∈ N' → IntsAre ys (zs (ev (.neg y) st).1) → Q (.ref l) m (N' ++ G')) : Sat w c f (call (.ref 355) [.ref rx, .none, b]) m (N ++ G) Q := by
  refine sat_out ?_
  refine call_taken hc hf (by omega) fun c' ca co hc' hd hu hcl hco hlt => ?_
  have GG := G_taken
  have oc : Off (N ++ G) [(ca, co)] := off_one fun p hp => Nat.ne_of_lt (hlt p hp)
  refine sat_cons ?_
  refine sat_assign ?_ rfl
  refine sat_ifexp ?_
  refine sat_t_cmp ?_ rfl
  walk_at "name"
  walk_at "eval"
  refine p_isNone (v := .none) ⟨_, rfl, br_tt ?_⟩
  refine sat_list (sat_sp_none ?_)
  refine sat_newList ?_ (by rw [sizeLine_eq]; simp)
  intro lr hlr
  walk_at "sto"
  have lN : ∀ p ∈ N ++ G, p.1 < lr := fun p hp => hlr p (List.mem_append_left _ hp)
  exact taken_tail (x := y) (N := (lr, lst [] 0) :: N) (a := []) hy hc' (by omega) hcl (hb.sub (Sub.refl _).one) hwy (hr.sub (Sub.refl _).one) hok (off_new o lN) (off_new oc hlr) hco (.head _) .nil (by decide) fun N3 G3 l ys k s3 hr3 o3 hm3 hI3 => h N3 G3 l ys k (fun p hp => s3 p (.tail _ hp)) hr3 o3 hm3 hI3
theorem c_power {x : Tr} {n : Nat} {G : Led} {rx : Addr} {st : RS} {e a b : Value} {Q : Value → Loc → Led → Prop} (hx : ReadOk w x) (hc : c.Ok w) (hf : f.cs.kind = .function) (hroom : c.dp + (3 * x.ht + 9) < recursionLimit) (he : CallAt N e (s "^") [a, b]) (ha : Rep N a x) (hb : VecAt N b (n : Int)) (hw : (Tr.pw x n).wf)
    (hr : RdAt N G rx st) (hok : st.ok) (o : Off N G)
    (h : ∀ N' G' l ys k, Sub N N' → RdAt N' G' rx (ev (.pw x n) st).2 → Off N' G' → (l, lst ys k) ∈ N' → IntsAre ys (zs (ev (.pw x n) st).1) → Q (.ref l) m (N' ++ G')) : Sat w c f (call (.ref 362) [.ref rx, e]) m (N ++ G) Q := by
  refine call_power hc hf (by omega) fun c' hc' hd hu hl' => ?_
  have GG := G_power
  have he' : CallAt (N ++ G) e (s "^") [a, b] := he.sub (sub_l (Sub.refl _))
  have hb' := hb.sub (sub_l (G := G) (Sub.refl N))
  refine sat_cons ?_
  walk_at "W"
  refine c_whole_vec hc' rfl (by omega) hb' fun t1 => ?_
  walk_at "W"
  refine br_f (by have := hw.2.1; simp; omega) ?_
  walk_at "W"
  refine rd_meth hc' (m_read _) (by decide +kernel) hr (fun _ h => h) fun hk => ⟨hk, ?_⟩
  walk_at "W"
  refine (hx _ _ _ N G rx _ _ _ hc' rfl (by omega) ha hw.1 hr hok o fun N2 G2 l2 ys2 k2 s2 hr2 o2 hm2 hI2 => ?_)
  have r2 := ev_ok x st hw.1 hok
  have r2l := r2.2.len
  have hev : ev (.pw x n) st = (pwr (ev x st).1 n, (ev x st).2) := rfl
  rw [hev] at h
  generalize ev x st = E at *
  have z2 := zs_len hI2
  have z2' : ys2.length ≤ 16384 := by omega
  have hm2' : (l2, lst ys2 k2) ∈ N2 ++ G2 := List.mem_append_left _ hm2
  walk_at "W"
  refine sat_forR ?_ (by intro _; rfl)
  walk_at "W"
  refine p_min fun t3 => ?_
  have em : (if ((ys2.length : Nat) : Int) < (n : Int) - 1 then ((ys2.length : Nat) : Int) else (n : Int) - 1) = ((min (n - 1) E.1.length : Nat) : Int) := by
    have := hw.2.1
    split <;> omega
  rw [em]
  walk_at "W"
  refine p_range fun r u1 u2 u3 hrl => ?_
  refine ⟨r, min (n - 1) E.1.length, u1, u2, u3, rfl, by omega, .head _, fun i m' N0 => ∃ N' lf ysf kf tv, m' = lk [s "self", s "e", s "count", s "row", s "found", s "turn"] [some (.ref rx), some e, some (.int n t1), some (.ref l2), some (.ref lf), tv] ∧ N0 = N' ++ G2 ∧ Sub N2 N' ∧ Off N' G2 ∧
      (lf, lst ysf kf) ∈ N' ∧ IntsAre ysf (zs ((List.range i).foldl (fun f _ => crs f E.1) E.1)), ⟨(r, rng (min (n - 1) E.1.length : Nat) u1 u2 u3) :: N2, l2, ys2, k2, _, rfl, rfl, (Sub.refl _).one, off_new o2 hrl, .tail _ hm2, hI2⟩, ?_, ?_⟩
  · rintro i ti m' N0 hi ⟨N', lf, ysf, kf, tv, rfl, rfl, sN, oN, hmf, hIf⟩
    walk_at "W"
    have rf := pwr_row r2.2 i
    have rfl' := rf.len
    refine sat_frame oN (c_crossed hc' rfl (by omega) hmf (sN _ hm2) hIf hI2 ?_ fun r3 ys3 k3 N3 s3 hm3 hI3 o3 => ?_)
    · exact Nat.le_trans (Nat.mul_le_mul rfl' r2l) (by decide)
    · walk_at "W"
      refine ⟨N3, r3, ys3, k3, _, rfl, rfl, sN.trans s3, o3, hm3, ?_⟩
      rw [List.range_succ, List.foldl_append]; exact hI3
  · rintro m' N0 ⟨N', lf, ysf, kf, tv, rfl, rfl, sN, oN, hmf, hIf⟩
    walk_at "W"
    exact h N' G2 lf ysf kf (s2.trans sN) (hr2.sub sN) oN hmf hIf
end
section
variable {w : World} {c : Fx} {f : Fn} {m : Loc} {N : Led}
theorem c_operator {o : Op} {x y : Tr} {G : Led} {rx : Addr} {st : RS} {e a b : Value} {t0 : Tok} {Q : Value → Loc → Led → Prop} (hx : ReadOk w x) (hy : ReadOk w y) (hc : c.Ok w) (hf : f.cs.kind = .function) (hroom : c.dp + (3 * max x.ht y.ht + 10) < recursionLimit) (he : CallAt N e (opS o) [a, b]) (ha : Rep N a x) (hb : Rep N b y) (hwx : x.wf) (hwy : y.wf)
    (hr : RdAt N G rx st) (hok : st.ok) (oG : Off N G)
    (h : ∀ N' G' l ys k, Sub N N' → RdAt N' G' rx (ev (.bi o x y) st).2 → Off N' G' → (l, lst ys k) ∈ N' → IntsAre ys (zs (ev (.bi o x y) st).1) → Q (.ref l) m (N' ++ G')) : Sat w c f (call (.ref 369) [.ref rx, .str (opS o) t0, e]) m (N ++ G) Q := by
  refine call_operator hc hf (by omega) fun c' hc' hd hu hl' => ?_
  have GG := G_operator
  have he' : CallAt (N ++ G) e (opS o) [a, b] := he.sub (sub_l (Sub.refl _))
  have rx1 := ev_ok x st hwx hok
  have l1 := rx1.2.len
  refine sat_cons ?_
  refine sat_assignW ?_ rfl rfl
  walk_at "W"
  refine ⟨_, _, _, rfl, .head _, ?_⟩
  refine sat_weak (N₁ := N ++ G) (fun p hp => .tail _ hp) ?_
  cases o
  case minus =>
    walk_at "W"
    refine rd_meth hc' (m_taken_away _) (by decide +kernel) hr (fun _ h => h) fun hk => ⟨hk, ?_⟩
    walk_at "W"
    exact c_taken2 hx hy hc' rfl (by omega) ha hb hwx hwy hr hok oG h
  all_goals
    have ry1 := ev_ok y (ev x st).2 hwy rx1.1
    have l2 := ry1.2.len
    walk_at "W"
    refine sat_weak (N₁ := N ++ G) (fun p hp => .tail _ hp) ?_
    walk_at "W"
    refine rd_meth hc' (m_read _) (by decide +kernel) hr (fun _ h => h) fun hk => ⟨hk, ?_⟩
    walk_at "W"
    refine (hx _ _ _ N G rx _ _ _ hc' rfl (by omega) ha hwx hr hok oG fun N2 G2 r2 ys2 k2 s2 hr2 o2 hm2 hI2 => ?_)
    walk_at "W"
    refine rd_meth hc' (m_read _) (by decide +kernel) hr2 (fun _ h => h) fun hk => ⟨hk, ?_⟩
    walk_at "W"
    refine (hy _ _ _ N2 G2 rx _ _ _ hc' rfl (by omega) (hb.sub s2) hwy hr2 rx1.1 o2 fun N3 G3 r3 ys3 k3 s3 hr3 o3 hm3 hI3 => ?_)
    walk_at "W"
    have b256 : (ev x st).1.length * (ev y (ev x st).2).1.length ≤ 1000 := Nat.le_trans (Nat.mul_le_mul l1 l2) (by decide)
    have hm2' := s3 _ hm2
  · refine sat_frame o3 (c_union hc' rfl (by omega) hm2' hm3 hI2 hI3 (by omega) fun r4 ys4 k4 N4 s4 hm4 hI4 o4 => ?_)
    walk_at "W"
    exact h N4 G3 r4 ys4 k4 (s2.trans (s3.trans s4)) (hr3.sub s4) o4 hm4 hI4
  · refine sat_frame o3 (c_crossed hc' rfl (by omega) hm2' hm3 hI2 hI3 b256 fun r4 ys4 k4 N4 s4 hm4 hI4 o4 => ?_)
    walk_at "W"
    exact h N4 G3 r4 ys4 k4 (s2.trans (s3.trans s4)) (hr3.sub s4) o4 hm4 hI4
  · have l3 := (rx1.2.uni ry1.2).len
    have l4 := (rx1.2.crs ry1.2.lt).len
    refine sat_frame o3 (c_union hc' rfl (by omega) hm2' hm3 hI2 hI3 (by omega) fun r4 ys4 k4 N4 s4 hm4 hI4 o4 => ?_)
    walk_at "W"
    refine sat_frame o4 (c_crossed hc' rfl (by omega) (s4 _ hm2') (s4 _ hm3) hI2 hI3 b256 fun r5 ys5 k5 N5 s5 hm5 hI5 o5 => ?_)
    walk_at "W"
    refine sat_frame o5 (c_union hc' rfl (by omega) (s5 _ hm4) hm5 hI4 hI5 (by omega) fun r6 ys6 k6 N6 s6 hm6 hI6 o6 => ?_)
    walk_at "W"
    exact h N6 G3 r6 ys6 k6 (s2.trans (s3.trans (s4.trans (s5.trans s6)))) (hr3.sub (s4.trans (s5.trans s6))) o6 hm6 hI6
  · refine c_joined hc' rfl (by omega) (List.mem_append_left _ hm3) hI3 fun tj => ?_
    walk_at "W"
    rename_i L hL
    refine sat_frame (N := (L, lst [.int (joi (ev y (ev x st).2).1 : Nat) tj] 0) :: N3) (G := G3) (off_new o3 hL) (c_crossed (b := [joi (ev y (ev x st).2).1]) hc' rfl (by omega) (.tail _ hm2') (.head _) hI2 (.cons _ _ .nil) (by simp; omega) fun r4 ys4 k4 N4 s4 hm4 hI4 o4 => ?_)
    walk_at "W"
    exact h N4 G3 r4 ys4 k4 (s2.trans (s3.trans (fun p hp => s4 p (.tail _ hp)))) (hr3.sub fun p hp => s4 p (.tail _ hp)) o4 hm4 hI4
  · refine c_joined hc' rfl (by omega) (List.mem_append_left _ hm2') hI2 fun tj => ?_
    walk_at "W"
    rename_i L hL
    have l5 := (ry1.2.crs (b := [joi (ev x st).1]) fun t ht => by
      have : t = joi (ev x st).1 := by simpa using ht
      exact this ▸ joi_small rx1.2.lt).len
    refine sat_frame (N := (L, lst [.int (joi (ev x st).1 : Nat) tj] 0) :: N3) (G := G3) (off_new o3 hL) (c_crossed (b := [joi (ev x st).1]) hc' rfl (by omega) (.tail _ hm3) (.head _) hI3 (.cons _ _ .nil) (by simp; omega) fun r4 ys4 k4 N4 s4 hm4 hI4 o4 => ?_)
    walk_at "W"
    refine sat_frame o4 (c_union hc' rfl (by omega) (s4 _ (.tail _ hm2')) hm4 hI2 hI4 (by omega) fun r5 ys5 k5 N5 s5 hm5 hI5 o5 => ?_)
    walk_at "W"
    have s34 : Sub N3 N5 := fun p hp => s5 p (s4 p (.tail _ hp))
    exact h N5 G3 r5 ys5 k5 (s2.trans (s3.trans s34)) (hr3.sub s34) o5 hm5 hI5
theorem c_operatorP {x : Tr} {n : Nat} {G : Led} {rx : Addr} {st : RS} {e a b : Value} {t0 : Tok} {Q : Value → Loc → Led → Prop} (hx : ReadOk w x) (hc : c.Ok w) (hf : f.cs.kind = .function) (hroom : c.dp + (3 * x.ht + 10) < recursionLimit) (he : CallAt N e (s "^") [a, b]) (ha : Rep N a x) (hb : VecAt N b (n : Int)) (hw : (Tr.pw x n).wf)
    (hr : RdAt N G rx st) (hok : st.ok) (oG : Off N G)
    (h : ∀ N' G' l ys k, Sub N N' → RdAt N' G' rx (ev (.pw x n) st).2 → Off N' G' → (l, lst ys k) ∈ N' → IntsAre ys (zs (ev (.pw x n) st).1) → Q (.ref l) m (N' ++ G')) : Sat w c f (call (.ref 369) [.ref rx, .str (s "^") t0, e]) m (N ++ G) Q := by
  refine call_operator hc hf (by omega) fun c' hc' hd hu hl' => ?_
  have GG := G_operator
  have he' : CallAt (N ++ G) e (s "^") [a, b] := he.sub (sub_l (Sub.refl _))
  refine sat_cons ?_
  refine sat_assignW ?_ rfl rfl
  walk_at "W"
  refine ⟨_, _, _, rfl, .head _, ?_⟩
  refine sat_weak (N₁ := N ++ G) (fun p hp => .tail _ hp) ?_
  walk_at "W"
  refine rd_meth hc' (m_power _) (by decide +kernel) hr (fun _ h => h) fun hk => ⟨hk, ?_⟩
  walk_at "W"
  exact c_power hx hc' rfl (by omega) he ha hb hw hr hok oG h
set_option maxHeartbeats 4000000 in
theorem c_read (w : World) : ∀ t : Tr, ReadOk w t := by
  intro t
  induction t with
  | sy i =>
    intro c f m N G rx st v Q hc hf hroom hv hw hr hok oG h
    refine call_read hc hf (by omega) fun c' hc' hd hu hl' => ?_
    have GG := G_read
    have hv' : SymAt (N ++ G) v (nm i) := SymAt.sub hv (sub_l (Sub.refl _))
    refine sat_cons ?_
    walk_at "W"
    refine c_whole_sym hc' rfl (by omega) hv' ?_
    walk_at "W"
    rw [nm_dot i hw]
    walk_at "W"
    refine rd_meth hc' (m_variable _) (by decide +kernel) hr (fun _ h => h) fun hk => ⟨hk, ?_⟩
    walk_at "W"
    refine c_variable hc' rfl (by simp only [Tr.ht] at hroom; omega) hw hv hr hok oG fun N2 G2 t2 s2 hr2 o2 => ?_
    refine p_shl (by omega) (by have := (place_ok hok hw).2; omega) (by decide) fun t3 => ?_
    have e1 : (1 : Int) * 2 ^ ((((place i st.vars).1 : Nat) : Int)).toNat = ((2 ^ (place i st.vars).1 : Nat) : Int) := by simp
    rw [e1]
    walk_at "W"
    rename_i L hL
    exact h ((L, lst [.int (2 ^ (place i st.vars).1 : Nat) t3] 0) :: N2) G2 L _ _ s2.one (hr2.sub (Sub.refl _).one) (off_new o2 hL) (.head _) (.cons _ _ .nil)
  | nu n =>
    intro c f m N G rx st v Q hc hf hroom hv hw hr hok oG h
    refine call_read hc hf (by omega) fun c' hc' hd hu hl' => ?_
    have GG := G_read
    have hv' : VecAt (N ++ G) v (n : Int) := VecAt.sub hv (sub_l (Sub.refl _))
    refine sat_cons ?_
    walk_at "W"
    refine c_whole_vec hc' rfl (by omega) hv' fun t1 => ?_
    walk_at "W"
    refine rd_meth hc' (m_constant _) (by decide +kernel) hr (fun _ h => h) fun hk => ⟨hk, ?_⟩
    walk_at "W"
    refine c_constant hc' rfl (by simp only [Tr.ht] at hroom; omega) hw hr oG fun N2 G2 l2 s2 hr2 o2 hm2 => ?_
    exact h N2 G2 l2 [] 0 s2 hr2 o2 hm2 .nil
  | par x ih =>
    intro c f m N G rx st v Q hc hf hroom hv hw hr hok oG h
    refine call_read hc hf (by omega) fun c' hc' hd hu hl' => ?_
    have GG := G_read
    obtain ⟨a, hv, ha⟩ := hv
    have hv' : CallAt (N ++ G) v _ _ := CallAt.sub hv (sub_l (Sub.refl _))
    refine sat_cons ?_
    walk_at "W"
    refine c_whole_call hc' rfl (by omega) hv' ?_
    walk_at "W"
    refine c_called_call hc' rfl (by omega) hv' fun t1 => ?_
    walk_at "W"
    refine sat_weak (N₁ := N ++ G) (fun p hp => .tail _ hp) ?_
    walk_at "W"
    refine rd_meth hc' (m_read _) (by decide +kernel) hr (fun _ h => h) fun hk => ⟨hk, ?_⟩
    walk_at "W"
    exact ih _ _ _ N G rx _ _ _ hc' rfl (by simp only [Tr.ht] at hroom; omega) ha hw hr hok oG h
  | neg x ih =>
    intro c f m N G rx st v Q hc hf hroom hv hw hr hok oG h
    refine call_read hc hf (by omega) fun c' hc' hd hu hl' => ?_
    have GG := G_read
    obtain ⟨a, hv, ha⟩ := hv
    have hv' : CallAt (N ++ G) v _ _ := CallAt.sub hv (sub_l (Sub.refl _))
    refine sat_cons ?_
    walk_at "W"
    refine c_whole_call hc' rfl (by omega) hv' ?_
    walk_at "W"
    refine c_called_call hc' rfl (by omega) hv' fun t1 => ?_
    walk_at "W"
    refine sat_weak (N₁ := N ++ G) (fun p hp => .tail _ hp) ?_
    walk_at "W"
    refine rd_meth hc' (m_taken_away _) (by decide +kernel) hr (fun _ h => h) fun hk => ⟨hk, ?_⟩
    walk_at "W"
    exact c_taken1 ih hc' rfl (by simp only [Tr.ht] at hroom; omega) ha hw hr hok oG h
  | bi o x y ihx ihy =>
    intro c f m N G rx st v Q hc hf hroom hv hw hr hok oG h
    refine call_read hc hf (by omega) fun c' hc' hd hu hl' => ?_
    have GG := G_read
    obtain ⟨a, b, hv, ha, hb⟩ := hv
    have hv' : CallAt (N ++ G) v _ _ := CallAt.sub hv (sub_l (Sub.refl _))
    refine sat_cons ?_
    walk_at "W"
    refine c_whole_call hc' rfl (by omega) hv' ?_
    walk_at "W"
    refine c_called_call hc' rfl (by omega) hv' fun t1 => ?_
    have op := c_operator (w := w) (o := o) (t0 := t1) (m := lk [s "self", s "e", s "n", s "name", s "found"] [some (.ref rx), some v, some .none, some (.str (opS o) t1), some .none]) (Q := fun v' m' N' => m' = lk [s "self", s "e", s "n", s "name", s "found"] [some (.ref rx), some v, some .none, some (.str (opS o) t1), some .none] ∧ ∃ l, v' = .ref l ∧ Q (.ref l) m N') ihx ihy hc' (f := fn_read) rfl (by simp only [Tr.ht] at hroom; omega) hv ha hb hw.1 hw.2 hr hok oG
      fun N' G' l ys k s1 r1 o1 m1 i1 => ⟨rfl, l, rfl, h N' G' l ys k s1 r1 o1 m1 i1⟩
    cases o
    case plus =>
      walk_at "W"
      refine sat_weak (N₁ := N ++ G) (fun p hp => .tail _ hp) ?_
      walk_at "W"
      refine rd_meth hc' (m_operator _) (by decide +kernel) hr (fun _ h => h) fun hk => ⟨hk, ?_⟩
      walk_at "W"
      refine sat_mono op ?_
      rintro v' m' N' ⟨rfl, l, rfl, q⟩
      walk_at "W"
      exact q
    all_goals
      walk_at "W"
      refine sat_weak (N₁ := N ++ G) (fun p hp => .tail _ hp) ?_
      walk_at "W"
      refine rd_meth hc' (m_operator _) (by decide +kernel) hr (fun _ h => h) fun hk => ⟨hk, ?_⟩
      walk_at "W"
      refine sat_mono op ?_
      rintro v' m' N' ⟨rfl, l, rfl, q⟩
      walk_at "W"
      exact q
  | pw x n ih =>
    intro c f m N G rx st v Q hc hf hroom hv hw hr hok oG h
    refine call_read hc hf (by omega) fun c' hc' hd hu hl' => ?_
    have GG := G_read
    obtain ⟨a, b, hv, ha, hb⟩ := hv
    have hv' : CallAt (N ++ G) v _ _ := CallAt.sub hv (sub_l (Sub.refl _))
    refine sat_cons ?_
    walk_at "W"
    refine c_whole_call hc' rfl (by omega) hv' ?_
    walk_at "W"
    refine c_called_call hc' rfl (by omega) hv' fun t1 => ?_
    walk_at "W"
    refine sat_weak (N₁ := N ++ G) (fun p hp => .tail _ hp) ?_
    walk_at "W"
    refine rd_meth hc' (m_operator _) (by decide +kernel) hr (fun _ h => h) fun hk => ⟨hk, ?_⟩
    walk_at "W"
    refine c_operatorP ih hc' rfl (by simp only [Tr.ht] at hroom; omega) hv ha hb hw hr hok oG fun N' G' l ys k s1 r1 o1 m1 i1 => ?_
    walk_at "W"
    exact h N' G' l ys k s1 r1 o1 m1 i1
end
inductive KV : Nat → List (Int × Value) → Prop
  | zero : KV 0 []
  | succ {n : Nat} {kvs : List (Int × Value)} (t : Tok) : KV n kvs → KV (n + 1) (kvs ++ [((n : Int), .int (n : Int) t)])
theorem KV.fresh {n : Nat} {kvs : List (Int × Value)} (h : KV n kvs) : ∀ k : Nat, n ≤ k → (kvs.any fun kv => decide (kv.1 = (k : Int))) = false := by
  induction h with
  | zero => intro k _; rfl
  | succ t _ ih =>
    intro k hk
    rw [List.any_append, ih k (by omega)]
    simp; omega
theorem KV.at {n : Nat} {kvs : List (Int × Value)} (h : KV n kvs) : ∀ j : Nat, j < n → ∃ t, valueAt kvs (j : Int) = some (.int (j : Int) t) := by
  induction h with
  | zero => intro j hj; cases hj
  | @succ n kvs t hk ih =>
    intro j hj
    unfold valueAt
    rw [List.find?_append]
    by_cases e : j = n
    · subst e
      have : kvs.find? (fun kv => decide (kv.1 = (j : Int))) = none := by
        rw [List.find?_eq_none]
        intro x hx
        have := hk.fresh j (Nat.le_refl _)
        rw [List.any_eq_false] at this
        exact this x hx
      rw [this]
      exact ⟨t, by simp⟩
    · obtain ⟨t', ht⟩ := ih j (by omega)
      unfold valueAt at ht
      cases q : kvs.find? (fun kv => decide (kv.1 = (j : Int))) with
      | none => rw [q] at ht; cases ht
      | some y => rw [q] at ht; exact ⟨t', by simpa using ht⟩
theorem KV.len {n : Nat} {kvs : List (Int × Value)} (h : KV n kvs) : kvs.length = n := by
  induction h with
  | zero => rfl
  | succ _ _ ih => simp [ih]
theorem KV.store {n : Nat} {kvs : List (Int × Value)} (h : KV n kvs) (t : Tok) : KV (n + 1) (stored kvs (n : Int) (.int (n : Int) t)) := by
  unfold stored
  rw [if_neg (by rw [h.fresh n (Nat.le_refl _)]; decide)]
  exact h.succ t
inductive FacsAt (N : Led) : List Value → List (List Nat) → Prop
  | nil : FacsAt N [] []
  | cons {a : Addr} {us : List Value} {ms : List Nat} {vs : List Value} {fs : List (List Nat)} : (a, tup us) ∈ N → IntsAre us (zs ms) → FacsAt N vs fs → FacsAt N (.ref a :: vs) (ms :: fs)
theorem FacsAt.sub {N N' : Led} {vs : List Value} {fs : List (List Nat)} (h : FacsAt N vs fs) (k : Sub N N') : FacsAt N' vs fs := by
  induction h with
  | nil => exact .nil
  | cons a b _ ih => exact .cons (k _ a) b ih
theorem FacsAt.snoc {N : Led} {vs : List Value} {fs : List (List Nat)} {a : Addr} {us : List Value} {ms : List Nat} (h : FacsAt N vs fs) (h1 : (a, tup us) ∈ N) (h2 : IntsAre us (zs ms)) : FacsAt N (vs ++ [.ref a]) (fs ++ [ms]) := by
  induction h with
  | nil => exact .cons h1 h2 .nil
  | cons a b _ ih => exact .cons a b ih
theorem FacsAt.len {N : Led} {vs : List Value} {fs : List (List Nat)} (h : FacsAt N vs fs) : vs.length = fs.length := by
  induction h with
  | nil => rfl
  | cons _ _ _ ih => simp [ih]
theorem FacsAt.at {N : Led} {vs : List Value} {fs : List (List Nat)} (h : FacsAt N vs fs) : ∀ {i : Nat} {v : Value}, vs[i]? = some v → ∃ a us ms, v = .ref a ∧ (a, tup us) ∈ N ∧ IntsAre us (zs ms) ∧ fs[i]? = some ms := by
  induction h with
  | nil => intro i v h; simp at h
  | cons a b _ ih =>
    intro i v h
    cases i with
    | zero => simp at h; subst h; exact ⟨_, _, _, rfl, a, b, rfl⟩
    | succ i => exact ih (by simpa using h)
noncomputable def TermsAt (N : Led) (v : Value) (vars : List Nat) (facs : List (List Nat)) (icp : Bool) : Prop := ∃ x dx es n vl vs k fl fs kf ol ko, v = .ref x ∧ (x, instObj 248 dx) ∈ N ∧ (dx, dictOf es n) ∈ N ∧ Flds es fsTerms [.none, .ref vl, .ref fl, .bool icp, .ref ol] ∧
  (vl, lst vs k) ∈ N ∧ VarsAt N vs vars ∧ (fl, lst fs kf) ∈ N ∧ FacsAt N fs facs ∧ (ol, lst [] ko) ∈ N
theorem updF_app {d : Addr} {o : Obj} {N M : Led} {g : Obj → Led} (h : UpdF d o N g) (k : ∀ q ∈ M, q.1 ≠ d) : UpdF d o (N ++ M) (fun o' => g o' ++ M) := by
  induction h with
  | head a => exact .head fun p hp => (List.mem_append.mp hp).elim (a p) (k p)
  | tail a _ ih => exact .tail a ih
theorem updF_map {d : Addr} {o : Obj} {N : Led} {g : Obj → Led} (h : UpdF d o N g) : (d, o) ∈ N ∧ ∀ o', (g o').map (·.1) = N.map (·.1) := by
  induction h with
  | head _ => exact ⟨.head _, fun _ => rfl⟩
  | tail _ _ ih => exact ⟨.tail _ ih.1, fun o' => by rw [List.map_cons, List.map_cons, ih.2]⟩
theorem mems_lt {t n : Nat} (h : t < 2 ^ n) : ∀ i ∈ mems t, i < n := fun i hi => by
  have := (List.mem_filter.mp hi).2
  rcases Nat.lt_or_ge i n with q | q
  · exact q
  · rw [Nat.testBit_lt_two_pow (Nat.lt_of_lt_of_le h (Nat.pow_le_pow_right (by decide) q))] at this
    cases this
theorem and_nat0 (a : Nat) : Builtin.bitAnd (a : Int) 0 = 0 := by
  have := and_nat a 0
  simpa using this
section
variable {w : World} {c : Fx} {f : Fn} {m : Loc} {N : Led}
theorem p_setD {d : Addr} {o : Obj} {g : Obj → Led} {kvs : List (Int × Value)} {k : Int} {t : Tok} {v : Value} {Q : Unit → Loc → Led → Prop} (U : UpdF d o N g) (hd : o.IsDictOf (intKind P0 w) kvs) (hz : kvs.length ≤ 16384) (h : ∀ o' : Obj, o'.IsDictOf (intKind P0 w) (stored kvs k v) → Q () m (g o')) :
    Sat w c f (setItem (.ref d) (.int k t) v) m N Q := fun _ M _ F X O hR =>
  have hm := updF_map U
  kda_set F X (updF_app U (off_ne O hm.1)) hd (intKind_is _ _ _ _) (by rw [sizeLine_eq]; omega) fun h' o' F' X' hd' => hR _ _ _ _ _ (h o' hd') F' X' (off_map (hm.2 o') O)
set_option maxHeartbeats 4000000 in
theorem expand_tail2 {rx K O rl d ca : Addr} {od cco : Obj} {kvs : List (Int × Value)} {vs ys : List Value} {kk ky : Nat} {n : Nat} {vars row : List Nat} {st : RS} {N₁ G₁ : Led} {vF v : Value} {o5 o10 o11 : Option Value} {ta : Tok} {Q : Value → Loc → Led → Prop} (hc : c.Ok w) (hroom : c.dp + 6 < recursionLimit) (hcl : c.cl = [(s "numbers", ca)])
    (hca : (ca, cco) ∈ N) (hcd : cco.data = .cell (some (.ref d))) (hd : (d, od) ∈ N) (hod : od.IsDictOf (intKind P0 w) kvs) (hkv : KV n kvs) (hK : (K, lst vs kk) ∈ N) (hV : VarsAt N vs vars) (hO : (O, lst [] 0) ∈ N) (hrl : (rl, lst ys ky) ∈ N) (hI : IntsAre ys (zs row)) (hr : RdAt N₁ G₁ rx st) (hs1 : Sub (N₁ ++ G₁) N)
    (hrow : Small row) (hrl' : row.length ≤ 1000) (hn : ∀ t ∈ row, t < 2 ^ n)
    (h : ∀ tv N', Sub N N' → TermsAt N' tv vars (row.map mems) st.icp → Q tv m N') :
    Sat w c fn_expand (execs (bd_expand.drop 8) (c.env fn_expand)) (lk [s "formula", s "names", s "response", s "right", s "reader", s "term", s "row", s "away", s "kept", s "offsets", s "place", s "e", s "factors"] [some vF, some .none, some .none, some v, some (.ref rx), o5, some (.ref rl), some (.int 0 ta), some (.ref K), some (.ref O), o10, o11, none]) N fun fl _ N' => Q (match fl with | .ret v => v | _ => .none) m N' := by
  have GG := G_expand
  have zl := zs_len hI
  refine sat_cons ?_
  walk_at "W"
  rename_i F hF
  refine sat_weak (N₁ := N ++ [(F, lst [] 0)]) (fun p hp => by
    rcases List.mem_append.mp hp with hp | hp
    · exact .tail _ hp
    · rcases List.mem_cons.mp hp with rfl | hp
      · exact .head _
      · cases hp) ?_
  refine sat_forL ?_ (by intro _; rfl)
  have hrlF : (rl, lst ys ky) ∈ N ++ [(F, lst [] 0)] := List.mem_append_left _ hrl
  walk_at "W"
  refine ⟨rl, ys, ky, rfl, fun i m' N0 => ∃ N' fs k tv, m' = lk [s "formula", s "names", s "response", s "right", s "reader", s "term", s "row", s "away", s "kept", s "offsets", s "place", s "e", s "factors"] [some vF, some .none, some .none, some v, some (.ref rx), tv, some (.ref rl), some (.int 0 ta), some (.ref K), some (.ref O), o10, o11, some (.ref F)] ∧
      N0 = N' ++ [(F, lst fs k)] ∧ Sub N N' ∧ (∀ p ∈ N', p.1 ≠ F) ∧ FacsAt N' fs ((row.take i).map mems), ⟨N, [], 0, _, rfl, rfl, Sub.refl _, fun p hp => Nat.ne_of_lt (hF p hp), .nil⟩, ?_, ?_, ?_⟩
  · rintro i m' N0 ⟨N', fs, k, tv, rfl, rfl, sN, oF, hFa⟩
    exact List.mem_append_left _ (sN _ hrl)
  · rintro i u m' N0 hu ⟨N', fs, k, tv, rfl, rfl, sN, oF, hFa⟩
    obtain ⟨x, tx, rfl, hx⟩ := zs_at hI hu
    have hxm := List.mem_of_getElem? hx
    have hfz : fs.length ≤ 16384 := by
      have := hFa.len
      rw [List.length_map, List.length_take] at this
      omega
    walk_at "W"
    rw [and_nat0]
    walk_at "W"
    refine sat_compT (cl := [(s "numbers", ca)]) ?hclos (compOk_of (by decide +kernel)) ?_ (by intro _; rfl)
    case hclos =>
      unfold Fx.env
      rw [hcl]
      kernel_rfl
    walk_at "W"
    refine sat_frame (off_one oF) (c_members hc rfl (by omega) (hrow x hxm).2 fun r ws N2 s2 hr2 hw o2 => ?_)
    have oF2 := off_of o2
    have zw := zs_len hw
    have hml := List.length_filter_le (fun i => x.testBit i) (List.range 4)
    rw [List.length_range] at hml
    have hml' : (mems x).length ≤ 4 := hml
    refine ⟨r, ws, rfl, by omega, fun i ys N0 => N0 = N2 ++ [(F, lst fs k)] ∧ IntsAre ys (zs ((mems x).take i)), ⟨rfl, .nil⟩, ?_, ?_, ?_⟩
    · rintro i ys N0 ⟨rfl, _⟩; exact List.mem_append_left _ hr2
    · rintro j u ys N0 C cob hu ⟨rfl, hJ⟩ hB hoff
      obtain ⟨y, ty, rfl, hy⟩ := zs_at hw hu
      have hyn := mems_lt (hn x hxm) y (List.mem_of_getElem? hy)
      obtain ⟨tv, hval⟩ := hkv.at y hyn
      have hcm : (C, cob) ∈ N2 ++ [(F, lst fs k)] ++ [(C, cob)] := List.mem_append_right _ (.head _)
      have sA : Sub N (N2 ++ [(F, lst fs k)] ++ [(C, cob)]) := fun p hp => List.mem_append_left _ (List.mem_append_left _ (s2 _ (sN _ hp)))
      refine sat_ifs0 ⟨rfl, N2 ++ [(F, lst fs k)], rfl, hoff, br_tt ?_⟩
      refine sat_sub ?_
      refine sat_cc rfl (by kernel_rfl) (by rfl) (sA _ hca) hcd ?_
      refine sat_cv (compOk_of (by decide +kernel)) hcm hB ?_
      refine p_itemD (sA _ hd) hod hval ⟨rfl, _, rfl, hoff, rfl, ?_⟩ (by with_unfolding_all rfl)
      rw [take_snoc hy]; exact zs_snoc hJ
    · rintro D ys kD N0 ⟨rfl, hJ⟩ hne hlen
      rw [List.take_of_length_le (by omega)] at hJ
      walk_at "W"
      refine p_tupL (.head _) (by omega) fun T hT => ?_
      refine sat_weak (N₁ := ((T, tup ys) :: N2) ++ [(F, lst fs k)]) (fun p hp => by
        rcases List.mem_append.mp hp with hp | hp
        · rcases List.mem_cons.mp hp with rfl | hp
          · exact .head _
          · exact .tail _ (.tail _ (List.mem_append_left _ hp))
        · exact .tail _ (.tail _ (List.mem_append_right _ hp))) ?_
      have oT : ∀ p ∈ (T, tup ys) :: N2, p.1 ≠ F := fun p hp => by
        rcases List.mem_cons.mp hp with rfl | hp
        · exact Nat.ne_of_gt (hT (F, lst fs k) (.tail _ (List.mem_append_right _ (.head _))))
        · exact oF2 p hp
      walk_at "W"
      refine p_app (upd_last oT) hfz ?_
      walk_at "W"
      refine ⟨rfl, ?_⟩
      walk_at "W"
      refine ⟨(T, tup ys) :: N2, _, _, _, rfl, rfl, (sN.trans s2).one, oT, ?_⟩
      rw [take_snoc hx, List.map_append]
      exact (hFa.sub s2.one).snoc (.head _) hJ
  · rintro m' N0 ⟨N', fs, k, tv, rfl, rfl, sN, oF, hFa⟩
    rw [List.take_of_length_le (by omega)] at hFa
    walk_at "W"
    refine rd_icp hc hr (fun p hp => List.mem_append_left _ (sN _ (hs1 p hp))) ?_
    walk_at "W"
    refine c_Terms hc rfl (by omega) fun tx dx es nn h1 h2 hFl => ?_
    have sA : Sub N' ((tx, instObj 248 dx) :: (dx, dictOf es nn) :: (N' ++ [(F, lst fs k)])) := fun p hp => .tail _ (.tail _ (List.mem_append_left _ hp))
    refine h _ _ (sN.trans sA) ⟨tx, dx, es, nn, K, vs, kk, F, fs, k, O, 0, rfl, .head _, .tail _ (.head _), hFl, sA _ (sN _ hK), hV.sub (sN.trans sA), .tail _ (.tail _ (List.mem_append_right _ (.head _))), hFa.sub sA, sA _ (sN _ hO)⟩
end
-- masks stay below the number of names
noncomputable def Bits (a : List Nat) (n : Nat) : Prop := ∀ t ∈ a, t < 2 ^ n
theorem Bits.le {a : List Nat} {n k : Nat} (h : Bits a n) (hk : n ≤ k) : Bits a k := fun t ht => Nat.lt_of_lt_of_le (h t ht) (Nat.pow_le_pow_right (by decide) hk)
theorem Bits.uni {a b : List Nat} {n : Nat} (h : Bits a n) (h' : Bits b n) : Bits (uni a b) n := uni_go _ _ _ (fun t ht => (List.mem_append.mp ht).elim (h t) (h' t)) fun t ht => nomatch ht
theorem Bits.crs {a b : List Nat} {n : Nat} (h : Bits a n) (h' : Bits b n) : Bits (crs a b) n := crs_go a b [] _ (fun l hl t ht => Nat.or_lt_two_pow (h l hl) (h' t ht)) fun t ht => nomatch ht
theorem Bits.joi {a : List Nat} {n : Nat} (h : Bits a n) : joi a < 2 ^ n := by
  have : ∀ (a : List Nat) (r : Nat), r < 2 ^ n → Bits a n → a.foldl (· ||| ·) r < 2 ^ n := by
    intro a
    induction a with
    | nil => intro r hr _; exact hr
    | cons x xs ih => intro r hr h; exact ih _ (Nat.or_lt_two_pow hr (h x (.head _))) fun t ht => h t (.tail _ ht)
  exact this a 0 (Nat.two_pow_pos n) h
theorem Bits.one {x n : Nat} (h : x < 2 ^ n) : Bits [x] n := fun t ht => by
  have : t = x := by simpa using ht
  exact this ▸ h
theorem Bits.filter {a : List Nat} {n : Nat} (h : Bits a n) (p : Nat → Bool) : Bits (a.filter p) n := fun t ht => h t (List.mem_filter.mp ht).1
theorem Bits.opF {a b : List Nat} {n : Nat} (h : Bits a n) (h' : Bits b n) : ∀ o, Bits (opF o a b) n
  | .plus => h.uni h'
  | .colon => h.crs h'
  | .star => (h.uni h').uni (h.crs h')
  | .inn => h.crs (.one h'.joi)
  | .slash => h.uni (h'.crs (.one h.joi))
  | .minus => h.filter _
theorem Bits.pwr {a : List Nat} {n : Nat} (h : Bits a n) (k : Nat) : Bits ((List.range k).foldl (fun f _ => Mine.crs f a) a) n := by
  induction k with
  | zero => exact h
  | succ k ih => rw [List.range_succ, List.foldl_append]; exact ih.crs h
theorem ev_bits : ∀ (t : Tr) (st : RS), Bits (ev t st).1 (ev t st).2.vars.length ∧ st.vars.length ≤ (ev t st).2.vars.length
  | .sy i, st => by
    show Bits [2 ^ (place i st.vars).1] (place i st.vars).2.length ∧ st.vars.length ≤ (place i st.vars).2.length
    have : (place i st.vars).1 < (place i st.vars).2.length ∧ st.vars.length ≤ (place i st.vars).2.length := by
      unfold place
      split
      · rename_i hm; exact ⟨List.idxOf_lt_length_iff.mpr hm, Nat.le_refl _⟩
      · simp
    exact ⟨.one (Nat.pow_lt_pow_right (by decide) this.1), this.2⟩
  | .nu _, st => ⟨(fun _ h => nomatch h), Nat.le_refl _⟩
  | .par x, st => ev_bits x st
  | .neg x, st => ⟨(fun _ h => nomatch h), (ev_bits x { st with add := !st.add }).2⟩
  | .bi .minus x y, st => by
    have a := ev_bits x st
    have b := ev_bits y { (ev x st).2 with add := !(ev x st).2.add }
    exact ⟨(a.1.le b.2).filter _, Nat.le_trans a.2 b.2⟩
  | .bi .plus x y, st => have a := ev_bits x st; have b := ev_bits y (ev x st).2; ⟨(a.1.le b.2).opF b.1 .plus, Nat.le_trans a.2 b.2⟩
  | .bi .colon x y, st => have a := ev_bits x st; have b := ev_bits y (ev x st).2; ⟨(a.1.le b.2).opF b.1 .colon, Nat.le_trans a.2 b.2⟩
  | .bi .star x y, st => have a := ev_bits x st; have b := ev_bits y (ev x st).2; ⟨(a.1.le b.2).opF b.1 .star, Nat.le_trans a.2 b.2⟩
  | .bi .inn x y, st => have a := ev_bits x st; have b := ev_bits y (ev x st).2; ⟨(a.1.le b.2).opF b.1 .inn, Nat.le_trans a.2 b.2⟩
  | .bi .slash x y, st => have a := ev_bits x st; have b := ev_bits y (ev x st).2; ⟨(a.1.le b.2).opF b.1 .slash, Nat.le_trans a.2 b.2⟩
  | .pw x n, st => have a := ev_bits x st; ⟨a.1.pwr _, a.2⟩
theorem updF_fst {a b : Addr} {o u : Obj} {N : Led} (O : ∀ p ∈ N, p.1 ≠ a) (h : a ≠ b) : UpdF a o (N ++ [(a, o), (b, u)]) (fun o' => N ++ [(a, o'), (b, u)]) := by
  induction N with
  | nil =>
    refine .head fun p hp => ?_
    rcases List.mem_cons.mp hp with rfl | hp
    · exact h.symm
    · cases hp
  | cons p N ih => exact .tail (O p (.head _)) (ih fun q hq => O q (.tail _ hq))
theorem byDeg_mem {row : List Nat} {t : Nat} (h : t ∈ byDeg row) : t ∈ row := by
  obtain ⟨d, _, hd⟩ := List.mem_flatMap.mp h
  exact (List.mem_filter.mp hd).1
section
variable {w : World} {c : Fx} {f : Fn} {m : Loc} {N : Led}
set_option maxHeartbeats 4000000 in
theorem expand_tail1 {rx K O rl d ca : Addr} {od cco : Obj} {ys : List Value} {ky : Nat} {row : List Nat} {st : RS} {N₁ G₁ : Led} {vF v : Value} {o5 : Option Value} {ta : Tok} {Q : Value → Loc → Led → Prop} (hc : c.Ok w) (hroom : c.dp + 6 < recursionLimit) (hcl : c.cl = [(s "numbers", ca)])
    (hca : (ca, cco) ∈ N) (hcd : cco.data = .cell (some (.ref d))) (hod : od.IsDictOf (intKind P0 w) []) (hO : (O, lst [] 0) ∈ N) (hrl : (rl, lst ys ky) ∈ N) (hI : IntsAre ys (zs row)) (hr : RdAt N₁ G₁ rx st) (hok : st.ok) (hs1 : Sub (N₁ ++ G₁) N)
    (oD : ∀ p ∈ N, p.1 ≠ d) (oK : ∀ p ∈ N, p.1 ≠ K) (hdK : d ≠ K)
    (hrow : Small row) (hrl' : row.length ≤ 1000) (hn : Bits row st.vars.length)
    (h : ∀ tv N', Sub N N' → TermsAt N' tv st.vars (row.map mems) st.icp → Q tv m N') :
    Sat w c fn_expand (execs (bd_expand.drop 7) (c.env fn_expand)) (lk [s "formula", s "names", s "response", s "right", s "reader", s "term", s "row", s "away", s "kept", s "offsets", s "place", s "e", s "factors"] [some vF, some .none, some .none, some v, some (.ref rx), o5, some (.ref rl), some (.int 0 ta), some (.ref K), some (.ref O), none, none, none]) (N ++ [(d, od), (K, lst [] 0)]) fun fl _ N' => Q (match fl with | .ret v => v | _ => .none) m N' := by
  have GG := G_expand
  have hr0 := hr
  obtain ⟨rd, es, vl, vs, k, rfl, hx, hne, hFl, hV⟩ := hr
  have hvl := hV.len
  have hlen := hok.len
  have hvz : vs.length ≤ 16384 := by omega
  have m1 : (rx, instObj 379 rd) ∈ N := hs1 _ (List.mem_append_left _ hx)
  have m2 : (rd, dictOf es 5) ∈ N := hs1 _ (List.mem_append_right _ (.head _))
  have m3 : (vl, lst vs k) ∈ N := hs1 _ (List.mem_append_right _ (.tail _ (.head _)))
  have hVN : VarsAt N vs st.vars := hV.sub fun p hp => hs1 p (List.mem_append_left _ hp)
  refine sat_cons ?_
  refine sat_forR ?_ (by intro _; rfl)
  walk_at "W"
  refine sat_get hc (aTermReader_variables _) 2 (by walk_at "mem") (by walk_at "mem") hFl ndTermReader rfl rfl rfl ?_
  walk_at "W"
  refine p_range fun r t1 t2 t3 hr => ?_
  refine ⟨r, vs.length, t1, t2, t3, rfl, by omega, .head _, fun i m' N0 => ∃ od kvs kk o10 o11, m' = lk [s "formula", s "names", s "response", s "right", s "reader", s "term", s "row", s "away", s "kept", s "offsets", s "place", s "e", s "factors"] [some vF, some .none, some .none, some v, some (.ref rx), o5, some (.ref rl), some (.int 0 ta), some (.ref K), some (.ref O), o10, o11, none] ∧
      N0 = ((r, rng vs.length t1 t2 t3) :: N) ++ [(d, od), (K, lst (vs.take i) kk)] ∧ od.IsDictOf (intKind P0 w) kvs ∧ KV i kvs, ⟨od, [], 0, _, _, rfl, rfl, hod, .zero⟩, ?_, ?_⟩
  · rintro i ti m' N0 hi ⟨od, kvs, kk, o10, o11, rfl, rfl, hod, hkv⟩
    have hi' : i < st.vars.length := by omega
    have hiv : st.vars[i]? = some st.vars[i] := by simp [hi']
    obtain ⟨u, hu, hus⟩ := hVN.at hiv
    have oD' : ∀ p ∈ (r, rng vs.length t1 t2 t3) :: N, p.1 ≠ d := fun p hp => by
      rcases List.mem_cons.mp hp with rfl | hp
      · exact Nat.ne_of_gt (hr _ (List.mem_append_right _ (.head _)))
      · exact oD p hp
    have oK' : ∀ p ∈ (r, rng vs.length t1 t2 t3) :: N, p.1 ≠ K := fun p hp => by
      rcases List.mem_cons.mp hp with rfl | hp
      · exact Nat.ne_of_gt (hr _ (List.mem_append_right _ (.tail _ (.head _))))
      · exact oK p hp
    have tl : (vs.take i).length = i := by rw [List.length_take]; omega
    have tlz : (vs.take i).length ≤ 16384 := by omega
    walk_at "W"
    refine sat_get hc (aTermReader_variables _) 2 (by walk_at "mem") (by walk_at "mem") hFl ndTermReader rfl rfl rfl ?_
    walk_at "W"
    refine p_item (vs := vs) (n := k) (v := u) (by walk_at "mem") (by omega) (by omega) (by simpa using hu) ?_ (by with_unfolding_all rfl)
    walk_at "W"
    refine c_called_sym hc rfl (by omega) (hus.sub fun p hp => List.mem_append_left _ (.tail _ hp)) fun t4 => ?_
    walk_at "W"
    rename_i t5 t6
    rw [tl]
    refine sat_ldC GG cell_expand (by rw [hcl]; rfl) (List.mem_append_left _ (.tail _ hca)) hcd ?_
    walk_at "W"
    refine p_setD (updF_fst oD' hdK) hod (by rw [hkv.len]; omega) fun od2 hod2 => ?_
    walk_at "W"
    refine p_app (upd_snd oK' hdK) tlz ?_
    walk_at "W"
    refine ⟨rfl, ?_⟩
    walk_at "W"
    refine ⟨od2, _, kk + 1, _, _, rfl, ?_, hod2, hkv.store _⟩
    rw [take_snoc hu]
  · rintro m' N0 ⟨od, kvs, kk, o10, o11, rfl, rfl, hod, hkv⟩
    rw [List.take_of_length_le (Nat.le_refl _)]
    rw [hvl] at hkv
    have sA : Sub N (((r, rng vs.length t1 t2 t3) :: N) ++ [(d, od), (K, lst vs kk)]) := fun p hp => List.mem_append_left _ (.tail _ hp)
    exact expand_tail2 hc hroom hcl (sA _ hca) hcd (List.mem_append_right _ (.head _)) hod hkv (List.mem_append_right _ (.tail _ (.head _))) (hVN.sub sA) (sA _ hO) (sA _ hrl) hI hr0 (hs1.trans sA) hrow hrl' hn fun tv N' s1 hT => h tv N' (sA.trans s1) hT
end
noncomputable def st0 : RS := ⟨[], true, true⟩
theorem st0_ok : st0.ok := ⟨List.nodup_nil, fun _ h => nomatch h⟩
theorem nil_ne {N : Led} {a : Addr} (h : ∀ p ∈ N, p.1 < a) : ∀ p ∈ N, p.1 ≠ a := fun p hp => Nat.ne_of_lt (h p hp)
section
variable {w : World} {c : Fx} {f : Fn} {m : Loc} {N : Led}
set_option maxHeartbeats 4000000 in
theorem c_expand {t : Tr} {vF v : Value} {Q : Value → Loc → Led → Prop} (hc : c.Ok w) (hf : f.cs.kind = .function) (hroom : c.dp + (3 * t.ht + 20) < recursionLimit) (hF : CallAt N vF (s "~") [v]) (hv : Rep N v t) (hw : t.wf)
    (h : ∀ tv N', Sub N N' → TermsAt N' tv (ev t st0).2.vars ((byDeg (ev t st0).1).map mems) (ev t st0).2.icp → Q tv m N') : Sat w c f (call (.ref 389) [vF]) m N Q := by
  refine call_expand hc hf (by omega) fun c' ca co hc' hd hu hcl hco hlt => ?_
  have GG := G_expand
  have oc : Off N [(ca, co)] := off_one (nil_ne hlt)
  refine sat_cons ?_
  refine sat_assignT ?_ rfl rfl
  walk_at "W"
  refine sat_frame oc (c_parts hc' rfl (by omega) hF fun tt N1 s1 hmt oc1 => ?_)
  refine ⟨tt, .none, v, rfl, List.mem_append_left _ hmt, ?_⟩
  walk_at "W"
  refine c_Reader hc' rfl (by omega) fun rx dx vl es h1 h2 h3 hFl => ?_
  refine sat_weak (N₁ := ((rx, instObj 379 dx) :: N1) ++ [(dx, dictOf es 5), (vl, lst [] 0)] ++ [(ca, co)]) (fun p hp => by
    rcases List.mem_append.mp hp with hp | hp
    · rcases List.mem_append.mp hp with hp | hp
      · rcases List.mem_cons.mp hp with rfl | hp
        · exact .tail _ (.head _)
        · exact .tail _ (.tail _ (.tail _ (List.mem_append_left _ hp)))
      · rcases List.mem_cons.mp hp with rfl | hp
        · exact .tail _ (.tail _ (.head _))
        · rcases List.mem_cons.mp hp with rfl | hp
          · exact .head _
          · cases hp
    · exact .tail _ (.tail _ (.tail _ (List.mem_append_right _ hp)))) ?_
  have lN1 : ∀ p ∈ N1, p.1 < dx := fun p hp => h1 p (List.mem_append_left _ hp)
  have lca : ca < dx := h1 (ca, co) (List.mem_append_right _ (.head _))
  have o1 : Off ((rx, instObj 379 dx) :: N1) [(dx, dictOf es 5), (vl, lst [] 0)] := off_2 (fun p hp => by
    rcases List.mem_cons.mp hp with rfl | hp
    · exact Nat.ne_of_gt h2
    · exact Nat.ne_of_lt (lN1 p hp)) fun p hp => by
    rcases List.mem_cons.mp hp with rfl | hp
    · exact Nat.ne_of_lt h3
    · exact Nat.ne_of_lt (Nat.lt_trans (lN1 p hp) (Nat.lt_trans h2 h3))
  have oc2 : Off (((rx, instObj 379 dx) :: N1) ++ [(dx, dictOf es 5), (vl, lst [] 0)]) [(ca, co)] := off_one fun p hp => by
    rcases List.mem_append.mp hp with hp | hp
    · rcases List.mem_cons.mp hp with rfl | hp
      · exact Nat.ne_of_gt (Nat.lt_trans lca h2)
      · exact off_of oc1 p hp
    · rcases List.mem_cons.mp hp with rfl | hp
      · exact Nat.ne_of_gt lca
      · rcases List.mem_cons.mp hp with rfl | hp
        · exact Nat.ne_of_gt (Nat.lt_trans lca (Nat.lt_trans h2 h3))
        · cases hp
  have hr1 : RdAt ((rx, instObj 379 dx) :: N1) [(dx, dictOf es 5), (vl, lst [] 0)] rx st0 := ⟨dx, es, vl, [], 0, rfl, .head _, Nat.ne_of_lt (Nat.lt_trans h2 h3), hFl, .nil⟩
  walk_at "W"
  refine sat_comp (cl := []) ?hclos (compOk_of (by decide +kernel)) ?_ (by intro _; rfl)
  case hclos =>
    unfold Fx.env
    rw [hcl]
    kernel_rfl
  walk_at "W"
  refine rd_meth hc' (m_read _) (by decide +kernel) hr1 (fun _ h => List.mem_append_left _ h) fun hk => ⟨hk, ?_⟩
  walk_at "W"
  refine sat_frame oc2 (c_read w t _ _ _ _ _ rx st0 v _ hc' rfl (by omega) (hv.sub s1.one) hw hr1 st0_ok o1 fun N2 G2 l2 ys2 k2 s2 hr2 o2 hm2 hI2 oc3 => ?_)
  have E1 := ev_ok t st0 hw st0_ok
  have E2 := (ev_bits t st0).1
  generalize ev t st0 = E at *
  have hlenE := E1.2.len
  have z2 := zs_len hI2
  have hall : ∀ l : List Nat, Small l → (l.filter fun t => decide (0 < t)) = l := fun l hl => List.filter_eq_self.mpr fun t ht => by simpa using (hl t ht).1
  refine ⟨l2, ys2, k2, rfl, by omega, fun i ys N0 => N0 = N2 ++ G2 ++ [(ca, co)] ∧ IntsAre ys (zs (E.1.take i)), ⟨rfl, .nil⟩, ?_, ?_, ?_⟩
  · rintro i ys N0 ⟨rfl, _⟩; exact List.mem_append_left _ (List.mem_append_left _ hm2)
  · rintro i u ys N0 C cob hu ⟨rfl, hJ⟩ hB hoff
    obtain ⟨y, ty, rfl, hy⟩ := zs_at hI2 hu
    have hcm : (C, cob) ∈ N2 ++ G2 ++ [(ca, co)] ++ [(C, cob)] := List.mem_append_right _ (.head _)
    refine sat_ifs1 ?_
    walk_at "W"
    refine sat_cv (compOk_of (by decide +kernel)) hcm hB ?_
    walk_at "W"
    refine ⟨rfl, _, rfl, hoff, ?_⟩
    refine br_t (gt0_t (E1.2.sm y (List.mem_of_getElem? hy)).1) (sat_cv (compOk_of (by decide +kernel)) hcm hB ⟨rfl, _, rfl, hoff, rfl, ?_⟩)
    rw [take_snoc hy]; exact zs_snoc hJ
  · rintro D ysD kD N0 ⟨rfl, hJ⟩ hne hlen
    rw [List.take_of_length_le (by omega)] at hJ
    have oD : ∀ p ∈ (D, lst ysD kD) :: (N2 ++ G2), p.1 ≠ ca := fun p hp => by
      rcases List.mem_cons.mp hp with rfl | hp
      · exact (hne (ca, co) (List.mem_append_right _ (.head _))).symm
      · exact off_of oc3 p hp
    refine sat_weak (N₁ := ((D, lst ysD kD) :: (N2 ++ G2)) ++ [(ca, co)]) (fun p hp => hp) ?_
    walk_at "W"
    refine sat_frame (off_one oD) (c_by_degree hc' rfl (by omega) (.head _) hJ E1.2.sm (by omega) fun rl ysr kr N4 s4 hm4 hI4 oc4 => ?_)
    walk_at "W"
    rename_i ta K hK O hO
    refine p_dict hc' fun d od hd' hod => ?_
    have kca : ca < K := hK (ca, co) (List.mem_append_right _ (.head _))
    have kO : K < O := hO _ (.head _)
    have Od : O < d := hd' _ (.head _)
    have n4K : ∀ p ∈ N4, p.1 < K := fun p hp => hK p (List.mem_append_left _ hp)
    have oc5 : Off ((d, od) :: (O, lst [] 0) :: (K, lst [] 0) :: N4) [(ca, co)] := off_one fun p hp => by
      rcases List.mem_cons.mp hp with rfl | hp
      · exact Nat.ne_of_gt (Nat.lt_trans kca (Nat.lt_trans kO Od))
      · rcases List.mem_cons.mp hp with rfl | hp
        · exact Nat.ne_of_gt (Nat.lt_trans kca kO)
        · rcases List.mem_cons.mp hp with rfl | hp
          · exact Nat.ne_of_gt kca
          · exact off_of oc4 p hp
    refine sat_stC (N := (d, od) :: (O, lst [] 0) :: (K, lst [] 0) :: N4) (a := ca) (v₀ := none) GG cell_expand (by rw [hcl]; rfl) oc5 hco fun co2 hco2 => ?_
    refine sat_weak (N₁ := ((O, lst [] 0) :: (N4 ++ [(ca, co2)])) ++ [(d, od), (K, lst [] 0)]) (fun p hp => by
      rcases List.mem_append.mp hp with hp | hp
      · rcases List.mem_cons.mp hp with rfl | hp
        · exact .tail _ (.head _)
        · exact .tail _ (.tail _ (.tail _ hp))
      · rcases List.mem_cons.mp hp with rfl | hp
        · exact .head _
        · rcases List.mem_cons.mp hp with rfl | hp
          · exact .tail _ (.tail _ (.head _))
          · cases hp) ?_
    have sG : Sub (N2 ++ G2) ((O, lst [] 0) :: (N4 ++ [(ca, co2)])) := fun p hp => .tail _ (List.mem_append_left _ (s4 p (.tail _ hp)))
    have sN : Sub N ((O, lst [] 0) :: (N4 ++ [(ca, co2)])) := fun p hp => sG p (List.mem_append_left _ (s2 p (.tail _ (s1 p hp))))
    have lt5 : ∀ p ∈ (O, lst [] 0) :: (N4 ++ [(ca, co2)]), p.1 ≠ K ∧ p.1 < d := fun p hp => by
      rcases List.mem_cons.mp hp with rfl | hp
      · exact ⟨Nat.ne_of_gt kO, Od⟩
      · rcases List.mem_append.mp hp with hp | hp
        · exact ⟨Nat.ne_of_lt (n4K p hp), Nat.lt_trans (n4K p hp) (Nat.lt_trans kO Od)⟩
        · rcases List.mem_cons.mp hp with rfl | hp
          · exact ⟨Nat.ne_of_lt kca, Nat.lt_trans kca (Nat.lt_trans kO Od)⟩
          · cases hp
    have hdg := deg_row E1.2.sm
    exact expand_tail1 (st := E.2) (N := (O, lst [] 0) :: (N4 ++ [(ca, co2)])) hc' (by omega) hcl (.tail _ (List.mem_append_right _ (.head _))) hco2 hod (.head _) (.tail _ (List.mem_append_left _ hm4)) hI4 hr2 E1.1 sG
      (fun p hp => Nat.ne_of_lt (lt5 p hp).2) (fun p hp => (lt5 p hp).1) (Nat.ne_of_gt (Nat.lt_trans kO Od)) (fun t ht => E1.2.sm t (byDeg_mem ht)) (by omega) (fun t ht => E2 t (byDeg_mem ht)) fun tv N' s5 hT => h tv N' (sN.trans s5) hT
end
noncomputable def tlT (vars : List Nat) : List Nat → Tr
  | [] => .nu 0
  | p :: ps => ps.foldl (fun e q => .bi .colon e (.sy (vars.getD q 0))) (.sy (vars.getD p 0))
noncomputable def rsE (vars : List Nat) : List (List Nat) → Option Tr
  | [] => none
  | p :: ps => some (ps.foldl (fun e q => .bi .plus e (tlT vars q)) (tlT vars p))
noncomputable def rsT (vars : List Nat) (facs : List (List Nat)) (icp : Bool) : Tr := match rsE vars facs with
  | none => if icp = true then .nu 1 else .neg (.nu 1)
  | some e => if icp = true then e else .bi .minus e (.nu 1)
inductive RepsAt (N : Led) : List Value → List Tr → Prop
  | nil : RepsAt N [] []
  | cons {v : Value} {t : Tr} {vs : List Value} {ts : List Tr} : Rep N v t → RepsAt N vs ts → RepsAt N (v :: vs) (t :: ts)
theorem RepsAt.sub {N N' : Led} {vs : List Value} {ts : List Tr} (h : RepsAt N vs ts) (k : Sub N N') : RepsAt N' vs ts := by
  induction h with
  | nil => exact .nil
  | cons a _ ih => exact .cons (a.sub k) ih
theorem RepsAt.snoc {N : Led} {vs : List Value} {ts : List Tr} {v : Value} {t : Tr} (h : RepsAt N vs ts) (h1 : Rep N v t) : RepsAt N (vs ++ [v]) (ts ++ [t]) := by
  induction h with
  | nil => exact .cons h1 .nil
  | cons a _ ih => exact .cons a ih
theorem RepsAt.len {N : Led} {vs : List Value} {ts : List Tr} (h : RepsAt N vs ts) : vs.length = ts.length := by
  induction h with
  | nil => rfl
  | cons _ _ ih => simp [ih]
theorem RepsAt.at {N : Led} {vs : List Value} {ts : List Tr} (h : RepsAt N vs ts) : ∀ {i : Nat} {v : Value}, vs[i]? = some v → ∃ t, ts[i]? = some t ∧ Rep N v t := by
  induction h with
  | nil => intro i v h; simp at h
  | cons a _ ih =>
    intro i v h
    cases i with
    | zero => simp at h; subst h; exact ⟨_, rfl, a⟩
    | succ i => exact ih (by simpa using h)
theorem TermsAt.sub {N N' : Led} {v : Value} {vars : List Nat} {facs : List (List Nat)} {icp : Bool} (h : TermsAt N v vars facs icp) (k : Sub N N') : TermsAt N' v vars facs icp := by
  obtain ⟨x, dx, es, n, vl, vs, kk, fl, fs, kf, ol, ko, a, b, c, d, e, f, g, i, j⟩ := h
  exact ⟨x, dx, es, n, vl, vs, kk, fl, fs, kf, ol, ko, a, k _ b, k _ c, d, k _ e, f.sub k, k _ g, i.sub k, k _ j⟩
section
variable {w : World} {c : Fx} {f : Fn} {m : Loc} {N : Led}
theorem g_T_resp {v : Value} {vars : List Nat} {facs : List (List Nat)} {icp : Bool} {x : Bool} {Q : Value → Loc → Led → Prop} (hc : c.Ok w) (hs : TermsAt N v vars facs icp) (h : Q .none m N) : Sat w c f (getAttr v (s "response") x) m N Q := by
  obtain ⟨x, dx, es, n, vl, vs, kk, fl, fs, kf, ol, ko, rfl, a, b, d, e, f, g, i, j⟩ := hs
  exact sat_get hc (aTerms_response _) 0 a b d ndTerms rfl rfl rfl h
theorem g_T_vars {v : Value} {vars : List Nat} {facs : List (List Nat)} {icp : Bool} {x : Bool} {Q : Value → Loc → Led → Prop} (hc : c.Ok w) (hs : TermsAt N v vars facs icp) (h : ∀ l vs k, (l, lst vs k) ∈ N → VarsAt N vs vars → Q (.ref l) m N) : Sat w c f (getAttr v (s "variables") x) m N Q := by
  obtain ⟨x, dx, es, n, vl, vs, kk, fl, fs, kf, ol, ko, rfl, a, b, d, e, f, g, i, j⟩ := hs
  exact sat_get hc (aTerms_variables _) 1 a b d ndTerms rfl rfl rfl (h _ _ _ e f)
theorem g_T_facs {v : Value} {vars : List Nat} {facs : List (List Nat)} {icp : Bool} {x : Bool} {Q : Value → Loc → Led → Prop} (hc : c.Ok w) (hs : TermsAt N v vars facs icp) (h : ∀ l vs k, (l, lst vs k) ∈ N → FacsAt N vs facs → Q (.ref l) m N) : Sat w c f (getAttr v (s "factors") x) m N Q := by
  obtain ⟨x, dx, es, n, vl, vs, kk, fl, fs, kf, ol, ko, rfl, a, b, d, e, f, g, i, j⟩ := hs
  exact sat_get hc (aTerms_factors _) 2 a b d ndTerms rfl rfl rfl (h _ _ _ g i)
theorem g_T_icp {v : Value} {vars : List Nat} {facs : List (List Nat)} {icp : Bool} {x : Bool} {Q : Value → Loc → Led → Prop} (hc : c.Ok w) (hs : TermsAt N v vars facs icp) (h : Q (.bool icp) m N) : Sat w c f (getAttr v (s "intercept") x) m N Q := by
  obtain ⟨x, dx, es, n, vl, vs, kk, fl, fs, kf, ol, ko, rfl, a, b, d, e, f, g, i, j⟩ := hs
  exact sat_get hc (aTerms_intercept _) 3 a b d ndTerms rfl rfl rfl h
theorem g_T_offs {v : Value} {vars : List Nat} {facs : List (List Nat)} {icp : Bool} {x : Bool} {Q : Value → Loc → Led → Prop} (hc : c.Ok w) (hs : TermsAt N v vars facs icp) (h : ∀ l k, (l, lst [] k) ∈ N → Q (.ref l) m N) : Sat w c f (getAttr v (s "offsets") x) m N Q := by
  obtain ⟨x, dx, es, n, vl, vs, kk, fl, fs, kf, ol, ko, rfl, a, b, d, e, f, g, i, j⟩ := hs
  exact sat_get hc (aTerms_offsets _) 4 a b d ndTerms rfl rfl rfl (h _ _ j)
/-- a place of the names, as a tree -/
theorem p_var {value slice : Expr} {vars : List Nat} {l : Addr} {vs : List Value} {k : Nat} {p : Nat} {u : Tok} {Q : Value → Loc → Led → Prop} (hm : (l, lst vs k) ∈ N) (hV : VarsAt N vs vars) (hp : p < vars.length) (hz : vars.length ≤ 100) (h : ∀ v, Rep N v (.sy (vars.getD p 0)) → Q v m N)
    (hs : subscripted slice false (.ref l) (.int (p : Int) u) = operate [.ref l, .int (p : Int) u] (getItem (.ref l) (.int (p : Int) u)) := by with_unfolding_all rfl) : Sat w c f (subscriptTail value slice (.ref l) (.int (p : Int) u)) m N Q := by
  have hpv : vars[p]? = some (vars.getD p 0) := by simp [List.getD, hp]
  obtain ⟨v, hv, hsy⟩ := hV.at hpv
  exact p_item hm (by omega) (by omega) (by simpa using hv) (h v hsy) hs
theorem c_term_language {tv : Value} {vars : List Nat} {facs : List (List Nat)} {icp : Bool} {a : Addr} {us : List Value} {ms : List Nat} {Q : Value → Loc → Led → Prop} (hc : c.Ok w) (hf : f.cs.kind = .function) (hroom : c.dp + 6 < recursionLimit) (hT : TermsAt N tv vars facs icp) (hz : vars.length ≤ 100)
    (hm : (a, tup us) ∈ N) (hI : IntsAre us (zs ms)) (h0 : ms ≠ []) (hl : ∀ i ∈ ms, i < vars.length) (hlen : ms.length ≤ 100) (h : ∀ v N', Sub N N' → Rep N' v (tlT vars ms) → Q v m N') : Sat w c f (call (.ref 396) [tv, .ref a]) m N Q := by
  refine call_term_language hc hf (by omega) fun c' hc' hd hu hl' => ?_
  have GG := G_term_language
  have zl := zs_len hI
  obtain ⟨p, ps, rfl⟩ : ∃ p ps, ms = p :: ps := by
    cases ms with
    | nil => exact absurd rfl h0
    | cons p ps => exact ⟨p, ps, rfl⟩
  obtain ⟨tp, us', rfl, hI'⟩ := IntsAre.cons_inv hI
  have zl' : us'.length = ps.length := zs_len hI'
  refine sat_cons ?_
  walk_at "W"
  refine g_T_vars hc' hT fun l vs k hlm hV => ?_
  walk_at "W"
  refine p_var hlm hV (hl p (.head _)) hz (fun v0 hv0 => ?_) (by with_unfolding_all rfl)
  walk_at "W"
  refine sat_forT ?_ (by intro _; rfl)
  refine sat_slice1 ?_
  walk_at "W"
  refine ⟨a, _, rfl, hm, by simp, by simp; simp at hlen; omega, fun r hr => ?_⟩
  refine ⟨r, us', rfl, fun i m' N0 => ∃ ve tv', m' = lk [s "terms", s "factor", s "e", s "place"] [some tv, some (.ref a), some ve, tv'] ∧ Sub N N0 ∧ (r, tup us') ∈ N0 ∧ Rep N0 ve (tlT vars (p :: ps.take i)), ⟨v0, _, rfl, (Sub.refl _).one, .head _, hv0.sub (Sub.refl _).one⟩, ?_, ?_, ?_⟩
  · rintro i m' N0 ⟨ve, tv', rfl, sN, hrm, hR⟩; exact hrm
  · rintro i u m' N0 hu ⟨ve, tv', rfl, sN, hrm, hR⟩
    obtain ⟨x, tx, rfl, hx⟩ := zs_at hI' hu
    have hT' := hT.sub sN
    walk_at "W"
    refine g_T_vars hc' hT' fun l vs k hlm hV => ?_
    walk_at "W"
    refine p_var hlm hV (hl x (.tail _ (List.mem_of_getElem? hx))) hz (fun v1 hv1 => ?_) (by with_unfolding_all rfl)
    walk_at "W"
    refine c_call_of hc' rfl (by omega) (.head _) (by simp) fun v2 N2 s2 hv2 => ?_
    walk_at "W"
    refine ⟨v2, _, rfl, sN.trans (Sub.trans (Sub.refl _).one s2), s2 _ (.tail _ hrm), ?_⟩
    have : tlT vars (p :: ps.take (i + 1)) = .bi .colon (tlT vars (p :: ps.take i)) (.sy (vars.getD x 0)) := by
      rw [take_snoc hx]
      simp [tlT, List.foldl_append]
    rw [this]
    exact ⟨ve, v1, hv2, (hR.sub (Sub.refl _).one).sub s2, (hv1.sub (Sub.refl _).one).sub s2⟩
  · rintro m' N0 ⟨ve, tv', rfl, sN, hrm, hR⟩
    rw [List.take_of_length_le (by omega)] at hR
    walk_at "W"
    exact h _ _ sN hR
end
noncomputable def FacOk (vars : List Nat) (facs : List (List Nat)) : Prop := vars.length ≤ 100 ∧ facs.length ≤ 100 ∧ ∀ ms ∈ facs, ms ≠ [] ∧ (∀ i ∈ ms, i < vars.length) ∧ ms.length ≤ 100
noncomputable def OptRep (N : Led) (v : Value) : Option Tr → Prop
  | none => v = .none
  | some t => Rep N v t
theorem OptRep.sub {N N' : Led} {v : Value} {o : Option Tr} (h : OptRep N v o) (k : Sub N N') : OptRep N' v o := by
  cases o with
  | none => exact h
  | some t => exact Rep.sub k h
theorem rsE_snoc (vars : List Nat) (ps : List (List Nat)) (q : List Nat) : rsE vars (ps ++ [q]) = some (match rsE vars ps with | none => tlT vars q | some e => .bi .plus e (tlT vars q)) := by
  cases ps with
  | nil => rfl
  | cons p ps => simp [rsE, List.foldl_append]
section
variable {w : World} {c : Fx} {f : Fn} {m : Loc} {N : Led}
set_option maxHeartbeats 4000000 in
theorem c_right_side {tv : Value} {vars : List Nat} {facs : List (List Nat)} {icp : Bool} {Q : Value → Loc → Led → Prop} (hc : c.Ok w) (hf : f.cs.kind = .function) (hroom : c.dp + 8 < recursionLimit) (hT : TermsAt N tv vars facs icp) (hk : FacOk vars facs)
    (h : ∀ v N', Sub N N' → Rep N' v (rsT vars facs icp) → Q v m N') : Sat w c f (call (.ref 401) [tv]) m N Q := by
  refine call_right_side hc hf (by omega) fun c' ca co hc' hd hu hcl hco hlt => ?_
  have GG := G_right_side
  have sc : Sub N (N ++ [(ca, co)]) := fun p hp => List.mem_append_left _ hp
  have hca : (ca, co) ∈ N ++ [(ca, co)] := List.mem_append_right _ (.head _)
  generalize hN0 : N ++ [(ca, co)] = N0 at sc hca
  have hT0 := hT.sub sc
  refine sat_cons ?_
  walk_at "W"
  refine sat_forL ?_ (by intro _; rfl)
  walk_at "W"
  refine sat_comp (cl := [(s "terms", ca)]) ?hclos (compOk_of (by decide +kernel)) ?_ (by intro _; rfl)
  case hclos =>
    unfold Fx.env
    rw [hcl]
    kernel_rfl
  refine sat_attr ?_ rfl
  refine sat_ldC GG cell_right_side (by rw [hcl]; rfl) hca hco ?_
  refine g_T_facs hc' hT0 fun fl fs kf hfl hFa => ?_
  have zf := hFa.len
  refine ⟨fl, fs, kf, rfl, by have := hk.2.1; omega, fun i ys N1 => Sub N0 N1 ∧ RepsAt N1 ys ((facs.take i).map (tlT vars)), ⟨Sub.refl _, .nil⟩, ?_, ?_, ?_⟩
  · rintro i ys N1 ⟨sN, _⟩; exact sN _ hfl
  · rintro i u ys N1 C cob hu ⟨sN, hJ⟩ hB hoff
    obtain ⟨a, us, ms, rfl, hma, hIa, hms⟩ := hFa.at hu
    obtain ⟨hm0, hml, hmz⟩ := hk.2.2 ms (List.mem_of_getElem? hms)
    have hcm : (C, cob) ∈ N1 ++ [(C, cob)] := List.mem_append_right _ (.head _)
    refine sat_ifs0 ⟨rfl, N1, rfl, hoff, br_tt ?_⟩
    refine sat_call hc' ?_ rfl rfl rfl
    refine sat_cgl hc' (gterm_language _) rfl rfl (by kernel_rfl) ⟨kterm_language _, ?_⟩
    refine sat_sp_more ?_ rfl
    refine sat_cc rfl (by kernel_rfl) (by rfl) (List.mem_append_left _ (sN _ hca)) hco ?_
    refine sat_sp_more ?_ rfl
    refine sat_cv (compOk_of (by decide +kernel)) hcm hB ?_
    refine sat_sp_none ?_
    refine sat_frame hoff (c_term_language hc' rfl (by omega) (hT0.sub sN) hk.1 (sN _ hma) hIa hm0 hml hmz fun v2 N2 s2 hv2 o2 => ⟨rfl, N2, rfl, o2, sN.trans s2, ?_⟩)
    rw [take_snoc hms, List.map_append]
    exact (hJ.sub s2).snoc hv2
  · rintro D ys kD N1 ⟨sN, hJ⟩ hne hlen
    rw [List.take_of_length_le (by omega)] at hJ
    have zy := hJ.len
    rw [List.length_map] at zy
    have hk2 := hk.2.1
    refine sat_attr ?_ rfl
    refine sat_ldC GG cell_right_side (by rw [hcl]; rfl) (.tail _ (sN _ hca)) hco ?_
    refine g_T_offs hc' ((hT0.sub sN).sub (Sub.refl _).one) fun ol ko hol => ?_
    refine p_cat (.head _) hol (by simp; omega) fun R hR => ?_
    refine ⟨R, ys ++ [], 0, rfl, fun i m' N2 => ∃ ve pv, m' = lk [s "e", s "part"] [some ve, pv] ∧ Sub N1 N2 ∧ (R, lst (ys ++ []) 0) ∈ N2 ∧ OptRep N2 ve (rsE vars (facs.take i)), ⟨.none, _, rfl, (Sub.refl _).one.one, .head _, rfl⟩, ?_, ?_, ?_⟩
    · rintro i m' N2 ⟨ve, pv, rfl, s2, hRm, hE⟩; exact hRm
    · rintro i u m' N2 hu ⟨ve, pv, rfl, s2, hRm, hE⟩
      obtain ⟨t, ht, hRep⟩ := hJ.at (by simpa using hu)
      rw [List.getElem?_map] at ht
      obtain ⟨ms, hms, rfl⟩ := Option.map_eq_some_iff.mp ht
      have hRep2 := hRep.sub s2
      have step := rsE_snoc vars (facs.take i) ms
      rw [← take_snoc hms] at step
      walk_at "W"
      cases hE' : rsE vars (facs.take i) with
      | none =>
        rw [hE'] at hE step
        have hve : ve = .none := hE
        subst hve
        walk_at "W"
        refine ⟨u, _, rfl, s2, hRm, ?_⟩
        rw [step]; exact hRep2
      | some t0 =>
        rw [hE'] at hE step
        have hE2 : Rep N2 ve t0 := hE
        obtain ⟨ae, rfl⟩ := hE2.ref
        walk_at "W"
        refine c_call_of hc' rfl (by omega) (.head _) (by simp) fun v2 N3 s3 hv3 => ?_
        walk_at "W"
        refine ⟨v2, _, rfl, s2.trans (Sub.trans (Sub.refl _).one s3), s3 _ (.tail _ hRm), ?_⟩
        rw [step]
        exact ⟨_, _, hv3, (hE2.sub (Sub.refl _).one).sub s3, (hRep2.sub (Sub.refl _).one).sub s3⟩
    · rintro m' N2 ⟨ve, pv, rfl, s2, hRm, hE⟩
      have hz2 : (ys ++ []).length = facs.length := by simp; omega
      rw [List.take_of_length_le (by omega)] at hE
      have sAll : Sub N N2 := sc.trans (sN.trans s2)
      have hT2 := hT.sub sAll
      walk_at "W"
      cases hE' : rsE vars facs with
      | none =>
        rw [hE'] at hE
        have hve : ve = .none := hE
        subst hve
        have hrs : rsT vars facs icp = if icp = true then .nu 1 else .neg (.nu 1) := by unfold rsT; rw [hE']
        walk_at "W"
        refine sat_ldC GG cell_right_side (by rw [hcl]; rfl) (s2 _ (sN _ hca)) hco ?_
        refine g_T_icp hc' hT2 ?_
        cases icp with
        | true =>
          walk_at "W"
          refine c_number hc' rfl (by omega) fun v3 N3 s3 hv3 => ?_
          walk_at "W"
          refine h _ _ (sAll.trans s3) ?_
          rw [hrs]; exact hv3
        | false =>
          walk_at "W"
          refine c_number hc' rfl (by omega) fun v3 N3 s3 hv3 => ?_
          walk_at "W"
          refine c_call_of hc' rfl (by omega) (.head _) (by simp) fun v4 N4 s4 hv4 => ?_
          walk_at "W"
          refine h _ _ (sAll.trans (s3.trans (Sub.trans (Sub.refl _).one s4))) ?_
          rw [hrs]
          exact ⟨_, hv4, (hv3.sub (Sub.refl _).one).sub s4⟩
      | some t0 =>
        rw [hE'] at hE
        have hE2 : Rep N2 ve t0 := hE
        have hrs : rsT vars facs icp = if icp = true then t0 else .bi .minus t0 (.nu 1) := by unfold rsT; rw [hE']
        obtain ⟨ae, rfl⟩ := hE2.ref
        walk_at "W"
        refine sat_ldC GG cell_right_side (by rw [hcl]; rfl) (s2 _ (sN _ hca)) hco ?_
        refine g_T_icp hc' hT2 ?_
        cases icp with
        | true =>
          walk_at "W"
          refine h _ _ sAll ?_
          rw [hrs]; exact hE2
        | false =>
          walk_at "W"
          refine c_number hc' rfl (by omega) fun v3 N3 s3 hv3 => ?_
          walk_at "W"
          refine c_call_of hc' rfl (by omega) (.head _) (by simp) fun v4 N4 s4 hv4 => ?_
          walk_at "W"
          refine h _ _ (sAll.trans (s3.trans (Sub.trans (Sub.refl _).one s4))) ?_
          rw [hrs]
          exact ⟨_, _, hv4, ((hE2.sub s3).sub (Sub.refl _).one).sub s4, (hv3.sub (Sub.refl _).one).sub s4⟩
theorem c_formula_of {tv : Value} {vars : List Nat} {facs : List (List Nat)} {icp : Bool} {Q : Value → Loc → Led → Prop} (hc : c.Ok w) (hf : f.cs.kind = .function) (hroom : c.dp + 9 < recursionLimit) (hT : TermsAt N tv vars facs icp) (hk : FacOk vars facs)
    (h : ∀ v a N', Sub N N' → CallAt N' v (s "~") [a] → Rep N' a (rsT vars facs icp) → Q v m N') : Sat w c f (call (.ref 408) [tv]) m N Q := by
  refine call_formula_of hc hf (by omega) fun c' hc' hd hu hl' => ?_
  have GG := G_formula_of
  refine sat_cons ?_
  walk_at "W"
  refine g_T_resp hc' hT ?_
  walk_at "W"
  refine c_right_side hc' rfl (by omega) hT hk fun v2 N2 s2 hv2 => ?_
  walk_at "W"
  refine c_call_of hc' rfl (by omega) (.head _) (by simp) fun v4 N4 s4 hv4 => ?_
  walk_at "W"
  exact h _ _ _ (s2.trans (Sub.trans (Sub.refl _).one s4)) hv4 ((hv2.sub (Sub.refl _).one).sub s4)
end
-- names of a mask; the reader's numbering taken away
noncomputable def names (t : Nat) : List Str := (mems t).map nm
noncomputable def lm (l : List Nat) : Nat := joi (l.map fun i => 2 ^ i)
noncomputable def ren (vars : List Nat) (t : Nat) : Nat := lm ((mems t).map fun p => vars.getD p 0)
theorem or_foldl (l : List Nat) (r : Nat) : l.foldl (· ||| ·) r = r ||| l.foldl (· ||| ·) 0 := by
  induction l generalizing r with
  | nil => simp
  | cons x l ih =>
    simp only [List.foldl_cons]
    rw [ih (r ||| x), ih (0 ||| x), Nat.zero_or, Nat.or_assoc]
theorem joi_cons (x : Nat) (l : List Nat) : joi (x :: l) = x ||| joi l := by
  unfold joi
  rw [List.foldl_cons, or_foldl, Nat.zero_or]
theorem joi_append (a b : List Nat) : joi (a ++ b) = joi a ||| joi b := by
  unfold joi
  rw [List.foldl_append, or_foldl]
theorem joi_perm {a b : List Nat} (h : a.Perm b) : joi a = joi b := by
  induction h with
  | nil => rfl
  | cons x _ ih => rw [joi_cons, joi_cons, ih]
  | swap x y l => rw [joi_cons, joi_cons, joi_cons, joi_cons, ← Nat.or_assoc, ← Nat.or_assoc, Nat.or_comm y x]
  | trans _ _ h1 h2 => rw [h1, h2]
theorem joi_bit (l : List Nat) (i : Nat) : (joi l).testBit i = l.any fun x => x.testBit i := by
  induction l with
  | nil => simp [joi]
  | cons x l ih => rw [joi_cons, Nat.testBit_or, ih, List.any_cons]
theorem lm_bit (l : List Nat) (i : Nat) : (lm l).testBit i = decide (i ∈ l) := by
  unfold lm
  rw [joi_bit, List.any_map, Bool.eq_iff_iff]
  simp only [List.any_eq_true, Function.comp, Nat.testBit_two_pow, decide_eq_true_eq]
  constructor
  · rintro ⟨x, hx, e⟩
    exact e ▸ hx
  · intro h; exact ⟨i, h, rfl⟩
theorem lm_lt {l : List Nat} (h : ∀ x ∈ l, x < 4) : lm l < 16 := joi_small fun t ht => by
  obtain ⟨x, hx, rfl⟩ := List.mem_map.mp ht
  exact (Nat.pow_lt_pow_right (by decide : 1 < 2) (h x hx) : 2 ^ x < 2 ^ 4)
theorem srt4 : ∀ l : List Nat, l.length ≤ 4 → (∀ x ∈ l, x < 4) → l.Nodup → sortedS (l.map nm) = true → l.map nm = names (lm l) := by
  intro l hl hx hn hs
  have h0 : ∀ x, x < 4 → x ∈ List.range 4 := fun x h => List.mem_range.mpr h
  match l, hl with
  | [], _ => rfl
  | [a], _ =>
    have h : ((List.range 4).all fun a => [a].map nm == names (lm [a])) = true := by decide +kernel
    exact eq_of_beq (List.all_eq_true.mp h a (h0 a (hx a (by simp))))
  | [a, b], _ =>
    have h : ((List.range 4).all fun a => (List.range 4).all fun b => !decide ([a, b].Nodup) || !sortedS ([a, b].map nm) || ([a, b].map nm == names (lm [a, b]))) = true := by decide +kernel
    have := List.all_eq_true.mp (List.all_eq_true.mp h a (h0 a (hx a (by simp)))) b (h0 b (hx b (by simp)))
    rw [hs, decide_eq_true hn] at this
    exact eq_of_beq (by simpa using this)
  | [a, b, c], _ =>
    have h : ((List.range 4).all fun a => (List.range 4).all fun b => (List.range 4).all fun c => !decide ([a, b, c].Nodup) || !sortedS ([a, b, c].map nm) || ([a, b, c].map nm == names (lm [a, b, c]))) = true := by decide +kernel
    have := List.all_eq_true.mp (List.all_eq_true.mp (List.all_eq_true.mp h a (h0 a (hx a (by simp)))) b (h0 b (hx b (by simp)))) c (h0 c (hx c (by simp)))
    rw [hs, decide_eq_true hn] at this
    exact eq_of_beq (by simpa using this)
  | [a, b, c, d], _ =>
    have h : ((List.range 4).all fun a => (List.range 4).all fun b => (List.range 4).all fun c => (List.range 4).all fun d => !decide ([a, b, c, d].Nodup) || !sortedS ([a, b, c, d].map nm) || ([a, b, c, d].map nm == names (lm [a, b, c, d]))) = true := by decide +kernel
    have := List.all_eq_true.mp (List.all_eq_true.mp (List.all_eq_true.mp (List.all_eq_true.mp h a (h0 a (hx a (by simp)))) b (h0 b (hx b (by simp)))) c (h0 c (hx c (by simp)))) d (h0 d (hx d (by simp)))
    rw [hs, decide_eq_true hn] at this
    exact eq_of_beq (by simpa using this)
  | _ :: _ :: _ :: _ :: _ :: _, hl => simp at hl
/-- sorted names are the names of the mask -/
theorem names_of {ss : List Str} {l : List Nat} (hp : ss.Perm (l.map nm)) (hs : sortedS ss = true) (hn : l.Nodup) (hx : ∀ x ∈ l, x < 4) : ss = names (lm l) := by
  have inv : ∀ x, x < 4 → ([0, 1, 2, 3].find? fun i => nm i == nm x) = some x := fun x h => by
    have h : ((List.range 4).all fun x => ([0, 1, 2, 3].find? fun i => nm i == nm x) == some x) = true := by decide +kernel
    exact eq_of_beq (List.all_eq_true.mp h x (List.mem_range.mpr ‹x < 4›))
  let g : Str → Nat := fun y => (([0, 1, 2, 3].find? fun i => nm i == y)).getD 0
  have hg : ∀ x ∈ l, g (nm x) = x := fun x h => by show ((_ : Option Nat)).getD 0 = x; rw [inv x (hx x h)]; rfl
  have hl' : (ss.map g).Perm l := by
    have := hp.map g
    rw [List.map_map] at this
    have e : l.map (g ∘ nm) = l := by
      conv => rhs; rw [← List.map_id l]
      exact List.map_congr_left fun x h => hg x h
    rwa [e] at this
  have hss : ss = (ss.map g).map nm := by
    rw [List.map_map]
    conv => lhs; rw [← List.map_id ss]
    refine List.map_congr_left fun y hy => ?_
    obtain ⟨x, hx', rfl⟩ := List.mem_map.mp (hp.mem_iff.mp hy)
    show nm x = nm (g (nm x))
    rw [hg x hx']
  have nd : (ss.map g).Nodup := hl'.nodup_iff.mpr hn
  have lt : ∀ x ∈ ss.map g, x < 4 := fun x h => hx x (hl'.mem_iff.mp h)
  have e := srt4 (ss.map g) (nodup_le 4 _ nd lt) lt nd (by rw [← hss]; exact hs)
  have el : lm (ss.map g) = lm l := joi_perm (hl'.map _)
  rw [← el, ← e]
  exact hss
section
variable {α β : Type} {w : World} {c : Fx} {f : Fn} {m : Loc} {N : Led} {gs : List Str}
theorem sat_funO {f' : Fn} {ks gs' : List Str} {nm : Str} {params : Arguments} {body : List Stmt} {dV kV doc pm ct : Value} {an : Option Addr} {vals bvals : List Value} {n : Nat} {Q : Value → Loc → Led → Prop}
    (hc : c.Ok w) (hf : f.cs.kind = .function) (G : FnG f' ks gs') (hA : FnAt w f' nm params body dV kV doc pm ct an) (hroom : c.dp < recursionLimit)
    (hbind : ∀ s : Shared, (KF w.params).In s.heap → BindsTo s (fnOf nm f'.cn params body f'.cs dV kV doc pm an f'.cd ct) ⟨vals, []⟩ ((ks.take n).zip bvals)) (hl : bvals.length = n) (hn : n ≤ ks.length)
    (hcell : ∀ x ∈ f'.cs.names, x.2 ≠ .cell)
    (h : ∀ c' : Fx, c'.Ok w → c'.dp = c.dp + 1 → c'.un = c.un + 3 → c'.cl = [] → (∀ b o, c.h₀.get? b = some o → c'.h₀.get? b = some o) → Sat w c' f' (execs body (c'.env f')) (lk ks (bvals.map some ++ List.replicate (ks.length - n) none)) N fun fl _ N' => Q (match fl with | .ret v => v | _ => .none) m N') :
    Sat w c f (call (.ref f'.a) vals) m N Q := fun s M R F N' O hR => by
  obtain ⟨oc, od, osl, hlook⟩ := hA.look
  obtain ⟨mg, mb, T⟩ := hc.T
  refine wpAny_call (callX_plain (cl := []) hc.B F N' T.nolimit (env := c.env f) (outer := c.outer) rfl rfl hf ((hc.X.keeps F.keep) _ _ hlook) rfl (codeRec_of (hc.X.keeps F.keep) hA.code) hroom (hbind s (hc.X.keeps F.keep)) (fun y hy => ?_) (fun g L' h₁ FG F' N'' B' st lt => ?_) hcell G.co G.gen G.kind)
  · exact (G.loc y.1 (List.mem_of_mem_take (List.of_mem_zip hy).1)).1
  · rw [lk_binds n ks bvals G.nd hl hn] at F'
    refine wpAny_mono (h ⟨c.dp + 1, c.un + 3, c.gd, c.env f :: c.outer, c.A f, c.base, g, L', []⟩ ⟨B', hc.X.keeps st, ⟨mg, mb, T.keeps st⟩⟩ rfl rfl rfl st _ M _ F' N'' O fun fl m' N₃ h' tk' q F₃ N₃' O₃ => leaveK_ F₃ N₃' fun Fm Nm => hR _ _ _ _ _ q Fm Nm O₃) (fun _ _ x => x) fun _ _ x => x.elim

end
theorem call_figureO {w : World} {c : Fx} {f : Fn} {m : Loc} {N : Led} {v_script v_at v_limit : Value} {Q : Value → Loc → Led → Prop} (hc : c.Ok w) (hf : f.cs.kind = .function) (hroom : c.dp < recursionLimit)
    (h : ∀ c' : Fx, c'.Ok w → c'.dp = c.dp + 1 → c'.un = c.un + 3 → c'.cl = [] → (∀ b o, c.h₀.get? b = some o → c'.h₀.get? b = some o) → Sat w c' fn_figure (execs bd_figure (c'.env fn_figure)) (lk [s "script", s "at", s "limit"] [some v_script, some v_at, some v_limit]) N fun fl _ N' => Q (match fl with | .ret v => v | _ => .none) m N') :
    Sat w c f (call (.ref 415) [v_script, v_at, v_limit]) m N Q :=
  sat_funO (f' := fn_figure) (bvals := [v_script, v_at, v_limit]) (n := 3) hc hf G_figure (A_figure w) hroom (fun s hs => BindsTo.of_eq (by kernel_rfl)) rfl (by decide) nc_figure h
theorem call_sideO {w : World} {c : Fx} {f : Fn} {m : Loc} {N : Led} {v_script v_at : Value} {Q : Value → Loc → Led → Prop} (hc : c.Ok w) (hf : f.cs.kind = .function) (hroom : c.dp < recursionLimit)
    (h : ∀ c' : Fx, c'.Ok w → c'.dp = c.dp + 1 → c'.un = c.un + 3 → c'.cl = [] → (∀ b o, c.h₀.get? b = some o → c'.h₀.get? b = some o) → Sat w c' fn_side (execs bd_side (c'.env fn_side)) (lk [s "script", s "at", s "one", s "two", s "shape_of_it"] [some v_script, some v_at, none, none, none]) N fun fl _ N' => Q (match fl with | .ret v => v | _ => .none) m N') :
    Sat w c f (call (.ref 422) [v_script, v_at]) m N Q :=
  sat_funO (f' := fn_side) (bvals := [v_script, v_at]) (n := 2) hc hf G_side (A_side w) hroom (fun s hs => BindsTo.of_eq (by kernel_rfl)) rfl (by decide) nc_side h
noncomputable def sideT (sh i j : Nat) : Tr := if sh = 0 then .sy i else if sh = 3 then .par (.bi .star (.sy i) (.sy j)) else if sh = 1 then .bi .plus (.sy i) (.sy j) else .bi .colon (.sy i) (.sy j)
noncomputable def twoT (o : Op) (x y : Tr) : Tr := .bi o (.par x) (.par y)
structure Scr (c : Fx) (l : Addr) (ns : List Int) : Prop where
  at_ : ∃ vs, c.h₀.IsList l vs.toArray ∧ IntsAre vs ns
  len : ns.length ≤ 1000
theorem Scr.keeps {c c' : Fx} {l : Addr} {ns : List Int} (h : Scr c l ns) (k : ∀ b o, c.h₀.get? b = some o → c'.h₀.get? b = some o) : Scr c' l ns := by
  obtain ⟨⟨vs, ⟨o, ho, r⟩, hi⟩, hl⟩ := h
  exact ⟨⟨vs, ⟨o, k _ _ ho, r⟩, hi⟩, hl⟩
section
variable {w : World} {c : Fx} {f : Fn} {m : Loc} {N : Led}
theorem p_lenO {l : Addr} {ns : List Int} {Q : Value → Loc → Led → Prop} (hs : Scr c l ns) (h : ∀ t, Q (.int (ns.length : Nat) t) m N) : Sat w c f (call (.builtin "len") [.ref l]) m N Q := fun s M _ F X O hR => by
  obtain ⟨⟨vs, ⟨o, ho, r⟩, hi⟩, hl⟩ := hs
  have e : vs.length = ns.length := hi.length
  exact kun_lenL (k := ns.length) (items := vs.toArray) ⟨o, F.keep _ _ ho, r⟩ (by simp [e]) (by omega) (hR _ _ _ _ _ (h _) F X O)
theorem p_itemO {value slice : Expr} {l : Addr} {ns : List Int} {k : Nat} {u : Tok} {Q : Value → Loc → Led → Prop} (hs : Scr c l ns) (hk : k < ns.length) (h : ∀ a t, Q (.int a t) m N)
    (hsub : subscripted slice false (.ref l) (.int (k : Int) u) = operate [.ref l, .int (k : Int) u] (getItem (.ref l) (.int (k : Int) u)) := by with_unfolding_all rfl) : Sat w c f (subscriptTail value slice (.ref l) (.int (k : Int) u)) m N Q := fun s M _ F X O hR => by
  obtain ⟨⟨vs, ⟨o, ho, r⟩, hi⟩, hl⟩ := hs
  have hL : s.heap.IsList l vs.toArray := ⟨o, F.keep _ _ ho, r⟩
  obtain ⟨t, hv⟩ := hi.get k ns[k] (by simp [hk])
  exact tail_any hL.typeIs slot_list_getitem.lookup (wpAny_getItem_list hL (by omega) (by omega) (by simpa using hv) (hR _ _ _ _ _ (h _ _) F X O)) hsub
theorem c_figure {l : Addr} {ns : List Int} {a n : Nat} {t u : Tok} {Q : Value → Loc → Led → Prop} (hc : c.Ok w) (hf : f.cs.kind = .function) (hroom : c.dp + 1 < recursionLimit) (hs : Scr c l ns) (hn : 0 < n) (h : ∀ k t, k < n → Q (.int (k : Nat) t) m N) :
    Sat w c f (call (.ref 415) [.ref l, .int (a : Int) t, .int (n : Int) u]) m N Q := by
  refine call_figureO hc hf (by omega) fun c' hc' hd hu hl' hkeep => ?_
  have GG := G_figure
  have hs' := hs.keeps hkeep
  have hmod : ∀ z : Int, ∃ k : Nat, z.fmod (n : Int) = (k : Int) ∧ k < n := fun z => by
    have h1 := fmod_lo z (n := (n : Int)) (by omega)
    have h2 := fmod_hi z (n := (n : Int)) (by omega)
    exact ⟨(z.fmod n).toNat, by omega, by omega⟩
  refine sat_cons ?_
  walk_at "W"
  refine p_lenO hs' fun t1 => ?_
  walk_at "W"
  by_cases hlt : a < ns.length
  · refine br_t (by simpa using hlt) ?_
    walk_at "W"
    refine p_itemO hs' hlt (fun z tz => ?_) (by with_unfolding_all rfl)
    walk_at "W"
    refine p_mod (by omega) fun t3 => ?_
    obtain ⟨k, e, hk⟩ := hmod z
    rw [e]
    walk_at "W"
    exact h k _ hk
  · refine br_f (by simpa using hlt) ?_
    walk_at "W"
    refine p_lenO hs' fun t2 => ?_
    walk_at "W"
    refine p_mod (by omega) fun t3 => ?_
    obtain ⟨k, e, hk⟩ := hmod ((a : Int) + (ns.length : Nat))
    rw [e]
    walk_at "W"
    exact h k _ hk
theorem p_letter {value slice : Expr} {t u : Tok} {k : Nat} {Q : Value → Loc → Led → Prop} (hk : k < 4) (h : ∀ t, Q (.str (nm k) t) m N)
    (hs : subscripted slice false (.str (s "abcd") t) (.int (k : Int) u) = operate [.str (s "abcd") t, .int (k : Int) u] (getItem (.str (s "abcd") t) (.int (k : Int) u)) := by with_unfolding_all rfl)
    (ht : ∀ r, letTemporaryGo value (.str (s "abcd") t) r = pure () := by intro _; with_unfolding_all rfl) : Sat w c f (subscriptTail value slice (.str (s "abcd") t) (.int (k : Int) u)) m N Q := by
  have e : (s "abcd").length = 4 := by decide +kernel
  exact p_itemS (by omega) (by rw [e]; omega) (by rw [e]; decide) h hs ht
set_option maxHeartbeats 4000000 in
theorem c_side {l : Addr} {ns : List Int} {a : Nat} {t : Tok} {Q : Value → Loc → Led → Prop} (hc : c.Ok w) (hf : f.cs.kind = .function) (hroom : c.dp + 8 < recursionLimit) (hs : Scr c l ns)
    (h : ∀ v N' sh i j, sh < 4 → i < 4 → j < 4 → Sub N N' → Rep N' v (sideT sh i j) → Q v m N') : Sat w c f (call (.ref 422) [.ref l, .int (a : Int) t]) m N Q := by
  refine call_sideO hc hf (by omega) fun c' hc' hd hu hl' hkeep => ?_
  have GG := G_side
  have hs' := hs.keeps hkeep
  refine sat_cons ?_
  walk_at "W"
  rw [cast_succ]
  refine c_figure (n := 4) hc' rfl (by omega) hs' (by decide) fun i t1 hi => ?_
  refine p_letter hi (fun t2 => ?_) (by with_unfolding_all rfl) (by intro _; with_unfolding_all rfl)
  walk_at "W"
  refine c_Symbol hc' rfl (by omega) fun v1 N1 s1 hv1 => ?_
  walk_at "W"
  have e2 : ((a : Nat) : Int) + 2 = ((a + 2 : Nat) : Int) := by omega
  rw [e2]
  refine c_figure (n := 4) hc' rfl (by omega) hs' (by decide) fun j t3 hj => ?_
  refine p_letter hj (fun t4 => ?_) (by with_unfolding_all rfl) (by intro _; with_unfolding_all rfl)
  walk_at "W"
  refine c_Symbol hc' rfl (by omega) fun v2 N2 s2 hv2 => ?_
  have hv1' := hv1.sub s2
  walk_at "W"
  refine c_figure (n := 4) hc' rfl (by omega) hs' (by decide) fun k t5 hk => ?_
  have hcases : k = 0 ∨ k = 1 ∨ k = 2 ∨ k = 3 := by omega
  rcases hcases with rfl | rfl | rfl | rfl
  · walk_at "W"
    exact h _ _ 0 i j (by decide) hi hj (s1.trans s2) hv1'
  · walk_at "W"
    refine c_call_of hc' rfl (by omega) (.head _) (by simp) fun v3 N3 s3 hv3 => ?_
    walk_at "W"
    have sb : Sub N2 N3 := Sub.trans (by walk_at "sub") s3
    exact h _ _ 1 i j (by decide) hi hj (s1.trans (s2.trans sb)) (show Rep N3 v3 (.bi .plus (.sy i) (.sy j)) from ⟨_, _, hv3, hv1'.sub sb, hv2.sub sb⟩)
  · walk_at "W"
    refine c_call_of hc' rfl (by omega) (.head _) (by simp) fun v3 N3 s3 hv3 => ?_
    walk_at "W"
    have sb : Sub N2 N3 := Sub.trans (by walk_at "sub") s3
    exact h _ _ 2 i j (by decide) hi hj (s1.trans (s2.trans sb)) (show Rep N3 v3 (.bi .colon (.sy i) (.sy j)) from ⟨_, _, hv3, hv1'.sub sb, hv2.sub sb⟩)
  · walk_at "W"
    refine c_call_of hc' rfl (by omega) (.head _) (by simp) fun v3 N3 s3 hv3 => ?_
    walk_at "W"
    refine c_call_of hc' rfl (by omega) (.head _) (by simp) fun v4 N4 s4 hv4 => ?_
    walk_at "W"
    have sb : Sub N2 N3 := Sub.trans (by walk_at "sub") s3
    have sc : Sub N3 N4 := Sub.trans (by walk_at "sub") s4
    exact h _ _ 3 i j (by decide) hi hj (s1.trans (s2.trans (sb.trans sc))) (show Rep N4 v4 (.par (.bi .star (.sy i) (.sy j))) from ⟨_, hv4, _, _, hv3.sub sc, (hv1'.sub sb).sub sc, (hv2.sub sb).sub sc⟩)
theorem c_two {o : Op} {op : Str} {t : Tok} {l r : Value} {x y : Tr} {Q : Value → Loc → Led → Prop} (hc : c.Ok w) (hf : f.cs.kind = .function) (hroom : c.dp + 6 < recursionLimit) (hop : op = opS o) (hl : Rep N l x) (hr : Rep N r y)
    (h : ∀ v N', Sub N N' → Rep N' v (twoT o x y) → Q v m N') : Sat w c f (call (.ref 429) [.str op t, l, r]) m N Q := by
  refine call_two hc hf (by omega) fun c' hc' hd hu hl' => ?_
  have GG := G_two
  subst hop
  refine sat_cons ?_
  walk_at "W"
  refine c_call_of hc' rfl (by omega) (.head _) (by simp) fun v1 N1 s1 hv1 => ?_
  walk_at "W"
  refine c_call_of hc' rfl (by omega) (.head _) (by simp) fun v2 N2 s2 hv2 => ?_
  walk_at "W"
  refine c_call_of hc' rfl (by omega) (.head _) (by simp) fun v3 N3 s3 hv3 => ?_
  walk_at "W"
  have sa : Sub N N1 := Sub.trans (by walk_at "sub") s1
  have sb : Sub N1 N2 := Sub.trans (by walk_at "sub") s2
  have sc : Sub N2 N3 := Sub.trans (by walk_at "sub") s3
  exact h _ _ (sa.trans (sb.trans sc)) ⟨v1, v2, hv3, ⟨l, hv1.sub (sb.trans sc), hl.sub (sa.trans (sb.trans sc))⟩, ⟨r, hv2.sub sc, hr.sub (sa.trans (sb.trans sc))⟩⟩
end
noncomputable def facRow (vars : List Nat) (ms : List Nat) : List Str := names (lm (ms.map fun p => vars.getD p 0))
structure FacFit (vars : List Nat) (facs : List (List Nat)) : Prop where
  nd : vars.Nodup
  lt : ∀ x ∈ vars, x < 4
  len : facs.length ≤ 60
  ms : ∀ ms ∈ facs, ms.Nodup ∧ (∀ p ∈ ms, p < vars.length) ∧ ms.length ≤ 4
theorem RowsAt.snoc {N : Led} {vs us : List Value} {rs : List (List Str)} {a : Addr} {k : Nat} {r : List Str} (h : RowsAt N vs rs) (h1 : (a, lst us k) ∈ N) (h2 : StrsAre us r) : RowsAt N (vs ++ [.ref a]) (rs ++ [r]) := h.app (.cons h1 h2 .nil)
theorem StrsAre.snoc {vs : List Value} {ss : List Str} {x : Str} {t : Tok} (h : StrsAre vs ss) : StrsAre (vs ++ [.str x t]) (ss ++ [x]) := h.append' (.cons _ _ .nil)
theorem getD_inj {vars : List Nat} (hn : vars.Nodup) {p q : Nat} (hp : p < vars.length) (hq : q < vars.length) (e : vars.getD p 0 = vars.getD q 0) : p = q := by
  have e1 : vars.getD p 0 = vars[p] := by simp [hp]
  have e2 : vars.getD q 0 = vars[q] := by simp [hq]
  rw [e1, e2] at e
  exact (List.getElem_inj hn).mp e
theorem facRow_of {vars ms : List Nat} {ss : List Str} (hn : vars.Nodup) (hlt : ∀ x ∈ vars, x < 4) (hm : ms.Nodup) (hp : ∀ p ∈ ms, p < vars.length) (h1 : ss.Perm (ms.map fun p => nm (vars.getD p 0))) (h2 : sortedS ss = true) : ss = facRow vars ms := by
  refine names_of (l := ms.map fun p => vars.getD p 0) (by rw [List.map_map]; exact h1) h2 ?_ fun x hx => ?_
  · refine List.pairwise_map.mpr (hm.imp_of_mem fun {a b} ha hb hab e => hab (getD_inj hn (hp a ha) (hp b hb) e))
  · obtain ⟨p, hpm, rfl⟩ := List.mem_map.mp hx
    have : vars.getD p 0 = vars[p]'(hp p hpm) := by simp [hp p hpm]
    rw [this]
    exact hlt _ (List.getElem_mem _)
section
variable {w : World} {c : Fx} {f : Fn} {m : Loc} {N : Led}
set_option maxHeartbeats 4000000 in
theorem rows_comp {T : Str} {ks gs : List Str} {p0 p1 p2 p3 p4 p5 p6 p7 p8 p9 p10 p11 p12 p13 : Pos} {sc1 sc2 : Scope} {ca : Addr} {cco : Obj} {tv : Value} {vars : List Nat} {facs : List (List Nat)} {icp : Bool} {Q : Value → Loc → Led → Prop}
    (hc : c.Ok w) (GG : FnG f ks gs) (hcell : f.cs.names.lookup T = some .cell) (hcl : c.cl.lookup T = some ca) (hm : (ca, cco) ∈ N) (hd : cco.data = .cell (some tv)) (hT : TermsAt N tv vars facs icp) (hk : FacFit vars facs)
    (ok1 : CompOk sc1 (s "factor")) (ok2 : CompOk sc2 (s "place")) (cl1 : closureFor sc1 (c.env f) = pure [(T, ca)])
    (cl2 : ∀ C, closureFor sc2 (compEnvC sc1 [(T, ca)] C (c.env f)) = pure [(T, ca)]) (k1 : ∀ C, (compEnvC sc1 [(T, ca)] C (c.env f)).kindOf (s "sorted") = some .globalImplicit)
    (k2 : ∀ C C', (compEnvC sc2 [(T, ca)] C' (compEnvC sc1 [(T, ca)] C (c.env f))).kindOf T = some .cell) (hdb : (T == ("__debug__" : Str)) = false)
    (h : ∀ D vs k N', Sub N N' → (D, lst vs k) ∈ N' → RowsAt N' vs (facs.map (facRow vars)) → Q (.ref D) m N') :
    Sat w c f (eval (.ListComp (.Call (.Name (s "sorted") p0) [.ListComp (.Attribute (.Subscript (.Attribute (.Name T p1) (s "variables") p2) (.Name (s "place") p3) p4) (s "name") p5) [⟨.Name (s "place") p6, .Name (s "factor") p7, [], 0⟩] sc2 p8] [] p9)
      [⟨.Name (s "factor") p10, .Attribute (.Name T p11) (s "factors") p12, [], 0⟩] sc1 p13) (c.env f)) m N Q := by
  refine sat_comp (cl := [(T, ca)]) cl1 ok1 ?_ (by intro _; rfl)
  refine sat_attr ?_ rfl
  refine sat_ldC GG hcell hcl hm hd ?_ hdb
  refine g_T_facs hc hT fun fl fs kf hfl hFa => ?_
  have zf := hFa.len
  have hkl := hk.len
  have hTl : ([(T, ca)] : List (Str × Addr)).lookup T = some ca := by simp
  refine ⟨fl, fs, kf, rfl, by omega, fun i ys N1 => Sub N N1 ∧ RowsAt N1 ys ((facs.take i).map (facRow vars)), ⟨Sub.refl _, .nil⟩, ?_, ?_, ?_⟩
  · rintro i ys N1 ⟨sN, _⟩; exact sN _ hfl
  · rintro i u ys N1 C cob hu ⟨sN, hJ⟩ hB hoff
    obtain ⟨a, us, ms, rfl, hma, hIa, hms⟩ := hFa.at hu
    obtain ⟨hmn, hmp, hml⟩ := hk.ms ms (List.mem_of_getElem? hms)
    have zu := zs_len hIa
    have hcm : (C, cob) ∈ N1 ++ [(C, cob)] := List.mem_append_right _ (.head _)
    have sA : Sub N (N1 ++ [(C, cob)]) := fun p hp => List.mem_append_left _ (sN _ hp)
    refine sat_ifs0 ⟨rfl, N1, rfl, hoff, br_tt ?_⟩
    refine sat_callB (sat_cbi hc (b_sorted _) rfl rfl ok1.kind (k1 C) ⟨rfl, ?_⟩) rfl rfl rfl
    refine sat_sp_more ?_ rfl
    refine sat_compT (cl := [(T, ca)]) (cl2 C) ok2 ?_ (by intro _; rfl)
    refine sat_cv ok1 hcm hB ?_
    refine ⟨a, us, rfl, by omega, fun j zz N2 => N2 = N1 ++ [(C, cob)] ∧ StrsAre zz ((ms.take j).map fun p => nm (vars.getD p 0)), ⟨rfl, .nil⟩, ?_, ?_, ?_⟩
    · rintro j zz N2 ⟨rfl, _⟩; exact sA _ hma
    · rintro j v zz N2 C' cob' hv ⟨rfl, hZ⟩ hB' hoff'
      obtain ⟨p, tp, rfl, hp⟩ := zs_at hIa hv
      have hcm' : (C', cob') ∈ N1 ++ [(C, cob)] ++ [(C', cob')] := List.mem_append_right _ (.head _)
      have sB : Sub N (N1 ++ [(C, cob)] ++ [(C', cob')]) := fun q hq => List.mem_append_left _ (sA _ hq)
      have hvl := nodup_le 4 _ hk.nd hk.lt
      refine sat_ifs0 ⟨rfl, N1 ++ [(C, cob)], rfl, hoff', br_tt ?_⟩
      refine sat_attr ?_ rfl
      refine sat_sub ?_
      refine sat_attr ?_ rfl
      refine sat_cc ok2.kind (k2 C C') hTl (sB _ hm) hd ?_ hdb
      refine g_T_vars hc (hT.sub sB) fun vl vsl kl hvm hV => ?_
      refine sat_cv ok2 hcm' hB' ?_
      refine p_var hvm hV (hmp p (List.mem_of_getElem? hp)) (by omega) (fun x hx => ?_) (by with_unfolding_all rfl)
      refine g_Sym_name hc hx fun tn => ⟨rfl, _, rfl, hoff', rfl, ?_⟩
      rw [take_snoc hp, List.map_append]
      exact StrsAre.snoc hZ
    · rintro D zz kD N2 ⟨rfl, hZ⟩ hne hlen
      rw [List.take_of_length_le (by omega)] at hZ
      refine sat_sp_none ?_
      refine p_sortedS (.head _) hZ (by simp; omega) fun D2 vs2 k2 ss hD2 hS hperm hsrt => ?_
      have hrow := facRow_of hk.nd hk.lt hmn hmp hperm hsrt
      subst hrow
      refine ⟨rfl, (D2, lst vs2 k2) :: (D, lst zz kD) :: N1, rfl, ?_, sN.one.one, ?_⟩
      · refine off_one fun q hq => ?_
        rcases List.mem_cons.mp hq with rfl | hq
        · exact Nat.ne_of_gt (hD2 (C, cob) (.tail _ hcm))
        · rcases List.mem_cons.mp hq with rfl | hq
          · exact (hne (C, cob) hcm).symm
          · exact off_of hoff q hq
      · rw [take_snoc hms, List.map_append]
        exact (hJ.sub (Sub.refl _).one.one).snoc (.head _) hS
  · rintro D ys kD N1 ⟨sN, hJ⟩ hne hlen
    rw [List.take_of_length_le (by omega)] at hJ
    exact h D ys kD _ sN.one (.head _) (hJ.sub (Sub.refl _).one)
noncomputable def rowS (t : Tr) : List (List Str) := ((byDeg (ev t st0).1).map mems).map (facRow (ev t st0).2.vars)
theorem fit_of {t : Tr} (hw : t.wf) : FacFit (ev t st0).2.vars ((byDeg (ev t st0).1).map mems) := by
  have E1 := ev_ok t st0 hw st0_ok
  have E2 := (ev_bits t st0).1
  refine ⟨E1.1.nd, E1.1.lt, ?_, fun ms hms => ?_⟩
  · rw [List.length_map, deg_row E1.2.sm]
    have := E1.2.len
    omega
  · obtain ⟨x, hx, rfl⟩ := List.mem_map.mp hms
    refine ⟨List.nodup_range.filter _, mems_lt (E2 x (byDeg_mem hx)), ?_⟩
    have := List.length_filter_le (fun i => x.testBit i) (List.range 4)
    rw [List.length_range] at this
    exact this
set_option maxHeartbeats 4000000 in
theorem c_row {t : Tr} {v : Value} {Q : Value → Loc → Led → Prop} (hc : c.Ok w) (hf : f.cs.kind = .function) (hroom : c.dp + (3 * t.ht + 22) < recursionLimit) (hv : Rep N v t) (hw : t.wf)
    (h : ∀ D vs k N', Sub N N' → (D, lst vs k) ∈ N' → RowsAt N' vs (rowS t) → Q (.ref D) m N') : Sat w c f (call (.ref 434) [v]) m N Q := by
  refine call_row hc hf (by omega) fun c' ca co hc' hd hu hcl hco hlt => ?_
  have GG := G_row
  have oc : Off N [(ca, co)] := off_one (nil_ne hlt)
  refine sat_cons ?_
  walk_at "W"
  rename_i t1 l hl
  refine sat_frame (N := (l, lst [v] 0) :: N) (off_new oc hl) (c_call_of hc' rfl (by omega) (.head _) (by simp) fun v1 N1 s1 hv1 oc1 => ?_)
  walk_at "W"
  have sN1 : Sub N N1 := fun p hp => s1 p (.tail _ hp)
  refine sat_frame oc1 (c_expand (t := t) hc' rfl (by omega) hv1 (hv.sub sN1) hw fun tv N2 s2 hT oc2 => ?_)
  refine sat_stC (a := ca) (v₀ := none) GG cell_row (by rw [hcl]; rfl) oc2 hco fun co2 hco2 => ?_
  walk_at "W"
  have sA : Sub N2 (N2 ++ [(ca, co2)]) := fun p hp => List.mem_append_left _ hp
  refine rows_comp hc' GG cell_row (by rw [hcl]; rfl) (List.mem_append_right _ (.head _)) hco2 (hT.sub sA) (fit_of hw) (compOk_of (by decide +kernel)) (compOk_of (by decide +kernel)) ?c1 ?c2 ?c3 ?c4 (by decide +kernel) fun D vs k N3 s3 hD hR => ?_
  case c1 => unfold Fx.env; rw [hcl]; kernel_rfl
  case c2 => intro C; unfold Fx.env; rw [hcl]; kernel_rfl
  case c3 => intro C; kernel_rfl
  case c4 => intro C C'; kernel_rfl
  walk_at "W"
  exact h D vs k N3 (sN1.trans (s2.trans (sA.trans s3))) hD hR
theorem c_lsame {t u : Tr} {v1 v2 : Value} {Q : Value → Loc → Led → Prop} (hc : c.Ok w) (hf : f.cs.kind = .function) (hroom : c.dp + (3 * max t.ht u.ht + 24) < recursionLimit) (hun : c.un + 40 < cLine) (h1 : Rep N v1 t) (h2 : Rep N v2 u) (hw1 : t.wf) (hw2 : u.wf) (hp : (rowS t).Perm (rowS u))
    (h : ∀ N', Sub N N' → Q (.bool true) m N') : Sat w c f (call (.ref 441) [v1, v2]) m N Q := by
  refine call_same hc hf (by omega) fun c' hc' hd hu hl' => ?_
  have GG := G_same
  have l1 : (rowS t).length < 64 := by
    have := (fit_of hw1).len
    unfold rowS; rw [List.length_map]; omega
  have l2 : (rowS u).length < 64 := by
    have := (fit_of hw2).len
    unfold rowS; rw [List.length_map]; omega
  refine sat_cons ?_
  walk_at "W"
  refine c_row hc' rfl (by omega) h1 hw1 fun D1 vs1 k1 N1 s1 hD1 hR1 => ?_
  walk_at "W"
  refine p_sortedRows hD1 hR1 l1 (by omega) fun E1 us1 j1 rs1 hE1 hS1 hp1 ho1 => ?_
  walk_at "W"
  refine c_row hc' rfl (by omega) (h2.sub (s1.trans (Sub.refl _).one)) hw2 fun D2 vs2 k2 N2 s2 hD2 hR2 => ?_
  walk_at "W"
  refine p_sortedRows hD2 hR2 l2 (by omega) fun E2 us2 j2 rs2 hE2 hS2 hp2 ho2 => ?_
  refine p_eqRows (.tail _ (s2 _ (.head _))) (.head _) ((hS1.sub (Sub.refl _).one).sub (s2.trans (Sub.refl _).one)) (hS2.sub (Sub.refl _).one) (by omega) ?_
  have : rs1 = rs2 := rows_uniq ((hp1.trans hp).trans hp2.symm) ho1 ho2
  rw [decide_eq_true this]
  exact h _ (s1.trans (Sub.trans (Sub.refl _).one (s2.trans (Sub.refl _).one)))
end
-- what a tree means, with no numbering in sight
noncomputable def sem : Tr → List Nat
  | .sy i => [2 ^ i]
  | .nu _ => []
  | .par x => sem x
  | .neg _ => []
  | .bi o x y => opF o (sem x) (sem y)
  | .pw x n => pwr (sem x) n
theorem sem_ok : ∀ t : Tr, t.wf → Row (sem t)
  | .sy i, h => ⟨fun t ht => by
      have : t = 2 ^ i := by simpa [sem] using ht
      subst this
      exact ⟨Nat.two_pow_pos _, (Nat.pow_lt_pow_right (by decide : 1 < 2) h : 2 ^ i < 2 ^ 4)⟩, by simp [sem]⟩
  | .nu _, _ => Row.nil
  | .par x, h => sem_ok x h
  | .neg _, _ => Row.nil
  | .bi o x y, h => (sem_ok x h.1).opF (sem_ok y h.2) o
  | .pw x n, h => pwr_row (sem_ok x h.1) _
theorem mem_uni {a b : List Nat} {t : Nat} : t ∈ uni a b ↔ t ∈ a ∨ t ∈ b := by
  have : ∀ (l r : List Nat), t ∈ l.foldl ins r ↔ t ∈ r ∨ t ∈ l := by
    intro l
    induction l with
    | nil => intro r; simp
    | cons x l ih => intro r; rw [List.foldl_cons, ih, ins_mem]; simp [or_assoc]
  unfold uni
  rw [this]
  simp
theorem mem_crs {a b : List Nat} {t : Nat} : t ∈ crs a b ↔ ∃ x ∈ a, ∃ y ∈ b, t = x ||| y := by
  have h1 : ∀ (b r : List Nat) (l : Nat), t ∈ crs1 b r l ↔ t ∈ r ∨ ∃ y ∈ b, t = l ||| y := by
    intro b
    induction b with
    | nil => intro r l; simp [crs1]
    | cons y b ih =>
      intro r l
      have := ih (ins r (l ||| y)) l
      unfold crs1 at this ⊢
      rw [List.foldl_cons, this, ins_mem]
      simp [or_assoc]
  have h2 : ∀ (a r : List Nat), t ∈ a.foldl (crs1 b) r ↔ t ∈ r ∨ ∃ x ∈ a, ∃ y ∈ b, t = x ||| y := by
    intro a
    induction a with
    | nil => intro r; simp
    | cons x a ih => intro r; rw [List.foldl_cons, ih, h1]; simp [or_assoc]
  unfold crs
  rw [h2]
  simp
structure Hom (g : Nat → Nat) (n : Nat) : Prop where
  zero : g 0 = 0
  or : ∀ x y, x < 2 ^ n → y < 2 ^ n → g (x ||| y) = g x ||| g y
  inj : ∀ x y, x < 2 ^ n → y < 2 ^ n → g x = g y → x = y
section
variable {g : Nat → Nat} {n : Nat}
theorem Hom.mem (h : Hom g n) {r : List Nat} {t : Nat} (hr : Bits r n) (ht : t < 2 ^ n) : g t ∈ r.map g ↔ t ∈ r := by
  rw [List.mem_map]
  constructor
  · rintro ⟨x, hx, e⟩
    exact h.inj x t (hr x hx) ht e ▸ hx
  · intro q; exact ⟨t, q, rfl⟩
theorem Hom.ins (h : Hom g n) {r : List Nat} {t : Nat} (hr : Bits r n) (ht : t < 2 ^ n) : (ins r t).map g = ins (r.map g) (g t) := by
  unfold Mine.ins
  by_cases q : t ∈ r
  · rw [if_pos q, if_pos ((h.mem hr ht).mpr q)]
  · rw [if_neg q, if_neg fun z => q ((h.mem hr ht).mp z)]; simp
theorem Bits.ins {r : List Nat} {t : Nat} (hr : Bits r n) (ht : t < 2 ^ n) : Bits (ins r t) n := fun x hx => (ins_mem.mp hx).elim (hr x) fun e => e ▸ ht
theorem Hom.foldl (h : Hom g n) : ∀ (l r : List Nat), Bits r n → Bits l n → (l.foldl Mine.ins r).map g = (l.map g).foldl Mine.ins (r.map g)
  | [], r, _, _ => rfl
  | x :: l, r, hr, hl => by
    rw [List.foldl_cons, h.foldl l _ (hr.ins (hl x (.head _))) fun t ht => hl t (.tail _ ht), h.ins hr (hl x (.head _))]; rfl
theorem Hom.uni (h : Hom g n) {a b : List Nat} (ha : Bits a n) (hb : Bits b n) : (uni a b).map g = Mine.uni (a.map g) (b.map g) := by
  unfold Mine.uni
  rw [h.foldl _ _ (fun _ q => by cases q) (fun t ht => (List.mem_append.mp ht).elim (ha t) (hb t)), List.map_append]; rfl
theorem Hom.crs1 (h : Hom g n) {l : Nat} (hl : l < 2 ^ n) : ∀ (b r : List Nat), Bits r n → Bits b n → (Mine.crs1 b r l).map g = Mine.crs1 (b.map g) (r.map g) (g l) ∧ Bits (Mine.crs1 b r l) n
  | [], r, hr, _ => ⟨rfl, hr⟩
  | y :: b, r, hr, hb => by
    have hy := hb y (.head _)
    have := h.crs1 hl b (Mine.ins r (l ||| y)) (hr.ins (Nat.or_lt_two_pow hl hy)) fun t ht => hb t (.tail _ ht)
    unfold Mine.crs1 at this ⊢
    rw [List.foldl_cons, List.map_cons, List.foldl_cons]
    refine ⟨?_, this.2⟩
    rw [this.1, h.ins hr (Nat.or_lt_two_pow hl hy), h.or l y hl hy]
theorem Hom.crs (h : Hom g n) {a b : List Nat} (ha : Bits a n) (hb : Bits b n) : (Mine.crs a b).map g = Mine.crs (a.map g) (b.map g) := by
  have : ∀ (a r : List Nat), Bits r n → Bits a n → (a.foldl (Mine.crs1 b) r).map g = (a.map g).foldl (Mine.crs1 (b.map g)) (r.map g) := by
    intro a
    induction a with
    | nil => intro r _ _; rfl
    | cons x a ih =>
      intro r hr ha
      have := h.crs1 (ha x (.head _)) b r hr hb
      rw [List.foldl_cons, ih _ this.2 fun t ht => ha t (.tail _ ht), this.1]; rfl
  exact this a [] (fun _ q => by cases q) ha
theorem Hom.joi (h : Hom g n) {a : List Nat} (ha : Bits a n) : g (Mine.joi a) = Mine.joi (a.map g) := by
  induction a with
  | nil => exact h.zero
  | cons x a ih =>
    have ha' : Bits a n := fun t ht => ha t (.tail _ ht)
    rw [joi_cons, h.or _ _ (ha x (.head _)) ha'.joi, ih ha', List.map_cons, joi_cons]
theorem Hom.minus (h : Hom g n) {a b : List Nat} (ha : Bits a n) (hb : Bits b n) : (a.filter fun t => !decide (t ∈ b)).map g = (a.map g).filter fun t => !decide (t ∈ b.map g) := by
  rw [List.filter_map]
  congr 1
  refine List.filter_congr fun t ht => ?_
  have := h.mem hb (ha t ht)
  simp only [Function.comp]
  by_cases q : t ∈ b
  · rw [decide_eq_true q, decide_eq_true (this.mpr q)]
  · rw [decide_eq_false q, decide_eq_false fun z => q (this.mp z)]
theorem Hom.opF (h : Hom g n) {a b : List Nat} (ha : Bits a n) (hb : Bits b n) : ∀ o, (Mine.opF o a b).map g = Mine.opF o (a.map g) (b.map g)
  | .plus => h.uni ha hb
  | .colon => h.crs ha hb
  | .star => by
    show (Mine.uni (Mine.uni a b) (Mine.crs a b)).map g = _
    rw [h.uni (ha.uni hb) (ha.crs hb), h.uni ha hb, h.crs ha hb]; rfl
  | .inn => by
    show (Mine.crs a [Mine.joi b]).map g = _
    rw [h.crs ha (.one hb.joi)]
    show Mine.crs (a.map g) [g (Mine.joi b)] = _
    rw [h.joi hb]; rfl
  | .slash => by
    show (Mine.uni a (Mine.crs b [Mine.joi a])).map g = _
    rw [h.uni ha (hb.crs (.one ha.joi)), h.crs hb (.one ha.joi)]
    show Mine.uni (a.map g) (Mine.crs (b.map g) [g (Mine.joi a)]) = _
    rw [h.joi ha]; rfl
  | .minus => h.minus ha hb
theorem Hom.pwr (h : Hom g n) {a : List Nat} (ha : Bits a n) (k : Nat) : ((List.range k).foldl (fun f _ => Mine.crs f a) a).map g = (List.range k).foldl (fun f _ => Mine.crs f (a.map g)) (a.map g) := by
  induction k with
  | zero => rfl
  | succ k ih =>
    rw [List.range_succ, List.foldl_append, List.foldl_append]
    show (Mine.crs _ a).map g = Mine.crs _ (a.map g)
    rw [h.crs (ha.pwr k) ha, ih]
end
theorem mems_mem {x p : Nat} : p ∈ mems x ↔ p < 4 ∧ x.testBit p = true := by
  unfold mems
  rw [List.mem_filter, List.mem_range]
theorem ren_bit (vars : List Nat) (x i : Nat) : (ren vars x).testBit i = true ↔ ∃ p, p < 4 ∧ x.testBit p = true ∧ vars.getD p 0 = i := by
  unfold ren
  rw [lm_bit]
  simp only [decide_eq_true_eq, List.mem_map]
  constructor
  · rintro ⟨p, hp, e⟩; exact ⟨p, (mems_mem.mp hp).1, (mems_mem.mp hp).2, e⟩
  · rintro ⟨p, h1, h2, e⟩; exact ⟨p, mems_mem.mpr ⟨h1, h2⟩, e⟩
theorem ren_hom {vars : List Nat} (hn : vars.Nodup) (h4 : vars.length ≤ 4) : Hom (ren vars) vars.length where
  zero := by
    have : mems 0 = [] := by decide +kernel
    unfold ren; rw [this]; rfl
  or x y hx hy := by
    refine Nat.eq_of_testBit_eq fun i => ?_
    rw [Bool.eq_iff_iff, Nat.testBit_or, Bool.or_eq_true, ren_bit, ren_bit, ren_bit]
    constructor
    · rintro ⟨p, h1, h2, e⟩
      rw [Nat.testBit_or, Bool.or_eq_true] at h2
      rcases h2 with h2 | h2
      · exact .inl ⟨p, h1, h2, e⟩
      · exact .inr ⟨p, h1, h2, e⟩
    · rintro (⟨p, h1, h2, e⟩ | ⟨p, h1, h2, e⟩)
      · exact ⟨p, h1, by rw [Nat.testBit_or, h2, Bool.true_or], e⟩
      · exact ⟨p, h1, by rw [Nat.testBit_or, h2, Bool.or_true], e⟩
  inj x y hx hy e := by
    have key : ∀ z w, z < 2 ^ vars.length → w < 2 ^ vars.length → ren vars z = ren vars w → ∀ p, p < vars.length → z.testBit p = true → w.testBit p = true := by
      intro z w hz hw e p hp hb
      have h1 : (ren vars z).testBit (vars.getD p 0) = true := (ren_bit _ _ _).mpr ⟨p, by omega, hb, rfl⟩
      rw [e, ren_bit] at h1
      obtain ⟨q, hq, hqb, eq⟩ := h1
      have hql : q < vars.length := by
        rcases Nat.lt_or_ge q vars.length with r | r
        · exact r
        · rw [Nat.testBit_lt_two_pow (Nat.lt_of_lt_of_le hw (Nat.pow_le_pow_right (by decide) r))] at hqb; cases hqb
      exact getD_inj hn hql hp eq ▸ hqb
    refine Nat.eq_of_testBit_eq fun p => ?_
    rcases Nat.lt_or_ge p vars.length with r | r
    · rw [Bool.eq_iff_iff]
      exact ⟨key x y hx hy e p r, key y x hy hx e.symm p r⟩
    · rw [Nat.testBit_lt_two_pow (Nat.lt_of_lt_of_le hx (Nat.pow_le_pow_right (by decide) r)), Nat.testBit_lt_two_pow (Nat.lt_of_lt_of_le hy (Nat.pow_le_pow_right (by decide) r))]
theorem ren_ext {vars ext : List Nat} {x : Nat} (h : x < 2 ^ vars.length) : ren (vars ++ ext) x = ren vars x := by
  unfold ren
  congr 1
  refine List.map_congr_left fun p hp => ?_
  have := mems_lt h p hp
  simp [List.getD, List.getElem?_append_left this]
theorem ext_two {u v w : List Nat} (h1 : ∃ e, v = u ++ e) (h2 : ∃ e, w = v ++ e) : ∃ e, w = u ++ e := by
  obtain ⟨e1, rfl⟩ := h1
  obtain ⟨e2, rfl⟩ := h2
  exact ⟨e1 ++ e2, List.append_assoc ..⟩
theorem ev_ext : ∀ (t : Tr) (st : RS), ∃ ext, (ev t st).2.vars = st.vars ++ ext
  | .sy i, st => by
    show ∃ ext, (place i st.vars).2 = st.vars ++ ext
    unfold place
    split
    · exact ⟨[], by simp⟩
    · exact ⟨[i], rfl⟩
  | .nu _, st => ⟨[], by simp [ev]⟩
  | .par x, st => ev_ext x st
  | .neg x, st => ev_ext x { st with add := !st.add }
  | .bi .minus x y, st => ext_two (v := (ev x st).2.vars) (ev_ext x st) (ev_ext y { (ev x st).2 with add := !(ev x st).2.add })
  | .bi .plus x y, st => ext_two (ev_ext x st) (ev_ext y (ev x st).2)
  | .bi .colon x y, st => ext_two (ev_ext x st) (ev_ext y (ev x st).2)
  | .bi .star x y, st => ext_two (ev_ext x st) (ev_ext y (ev x st).2)
  | .bi .inn x y, st => ext_two (ev_ext x st) (ev_ext y (ev x st).2)
  | .bi .slash x y, st => ext_two (ev_ext x st) (ev_ext y (ev x st).2)
  | .pw x n, st => ev_ext x st
theorem mems_two : ∀ p, p < 4 → mems (2 ^ p) = [p] := fun p hp => by
  have h : ((List.range 4).all fun p => mems (2 ^ p) == [p]) = true := by decide +kernel
  exact eq_of_beq (List.all_eq_true.mp h p (List.mem_range.mpr hp))
theorem ren_map {a vars ext : List Nat} (h : Bits a vars.length) : a.map (ren (vars ++ ext)) = a.map (ren vars) := List.map_congr_left fun x hx => ren_ext (h x hx)
theorem sem_two {o : Op} {x y : Tr} {a b : List Nat × RS} (ha : a.1.map (ren a.2.vars) = sem x) (hb : b.1.map (ren b.2.vars) = sem y) (ba : Bits a.1 a.2.vars.length) (bb : Bits b.1 b.2.vars.length) (he : ∃ e, b.2.vars = a.2.vars ++ e) (hok : b.2.ok) :
    (opF o a.1 b.1).map (ren b.2.vars) = opF o (sem x) (sem y) := by
  obtain ⟨e, he⟩ := he
  have hl : a.2.vars.length ≤ b.2.vars.length := by rw [he]; simp
  rw [(ren_hom hok.nd hok.len).opF (ba.le hl) bb, hb]
  congr 1
  rw [← ha, he]
  exact ren_map ba
theorem ev_sem : ∀ (t : Tr) (st : RS), t.wf → st.ok → (ev t st).1.map (ren (ev t st).2.vars) = sem t
  | .sy i, st, hw, h => by
    have hp := place_ok h hw
    show [ren (place i st.vars).2 (2 ^ (place i st.vars).1)] = [2 ^ i]
    have hg : (place i st.vars).2.getD (place i st.vars).1 0 = i := by
      unfold place
      split
      · rename_i hm
        have : st.vars.idxOf i < st.vars.length := List.idxOf_lt_length_iff.mpr hm
        simp [List.getD, List.getElem?_eq_getElem this]
      · simp
    unfold ren
    rw [mems_two _ hp.2, List.map_cons, List.map_nil, hg]
    simp [lm, joi]
  | .nu _, st, _, _ => rfl
  | .par x, st, hw, h => ev_sem x st hw h
  | .neg x, st, _, _ => rfl
  | .bi .minus x y, st, hw, h => by
    have ox := ev_ok x st hw.1 h
    have oy := ev_ok y { (ev x st).2 with add := !(ev x st).2.add } hw.2 ⟨ox.1.nd, ox.1.lt⟩
    exact sem_two (o := .minus) (a := ev x st) (b := ev y { (ev x st).2 with add := !(ev x st).2.add }) (ev_sem x st hw.1 h) (ev_sem y { (ev x st).2 with add := !(ev x st).2.add } hw.2 ⟨ox.1.nd, ox.1.lt⟩) (ev_bits x st).1 (ev_bits y _).1 (ev_ext y _) oy.1
  | .bi .plus x y, st, hw, h => have ox := ev_ok x st hw.1 h; sem_two (o := .plus) (ev_sem x st hw.1 h) (ev_sem y (ev x st).2 hw.2 ox.1) (ev_bits x st).1 (ev_bits y _).1 (ev_ext y _) (ev_ok y _ hw.2 ox.1).1
  | .bi .colon x y, st, hw, h => have ox := ev_ok x st hw.1 h; sem_two (o := .colon) (ev_sem x st hw.1 h) (ev_sem y (ev x st).2 hw.2 ox.1) (ev_bits x st).1 (ev_bits y _).1 (ev_ext y _) (ev_ok y _ hw.2 ox.1).1
  | .bi .star x y, st, hw, h => have ox := ev_ok x st hw.1 h; sem_two (o := .star) (ev_sem x st hw.1 h) (ev_sem y (ev x st).2 hw.2 ox.1) (ev_bits x st).1 (ev_bits y _).1 (ev_ext y _) (ev_ok y _ hw.2 ox.1).1
  | .bi .inn x y, st, hw, h => have ox := ev_ok x st hw.1 h; sem_two (o := .inn) (ev_sem x st hw.1 h) (ev_sem y (ev x st).2 hw.2 ox.1) (ev_bits x st).1 (ev_bits y _).1 (ev_ext y _) (ev_ok y _ hw.2 ox.1).1
  | .bi .slash x y, st, hw, h => have ox := ev_ok x st hw.1 h; sem_two (o := .slash) (ev_sem x st hw.1 h) (ev_sem y (ev x st).2 hw.2 ox.1) (ev_bits x st).1 (ev_bits y _).1 (ev_ext y _) (ev_ok y _ hw.2 ox.1).1
  | .pw x n, st, hw, h => by
    have ox := ev_ok x st hw.1 h
    show (pwr (ev x st).1 n).map (ren (ev x st).2.vars) = pwr (sem x) n
    have e := ev_sem x st hw.1 h
    unfold pwr
    rw [(ren_hom ox.1.nd ox.1.len).pwr (ev_bits x st).1, e, ← e, List.length_map]
theorem perm_nd {α : Type} [DecidableEq α] : ∀ {a b : List α}, a.Nodup → b.Nodup → (∀ x, x ∈ a ↔ x ∈ b) → a.Perm b
  | [], b, _, _, h => by
    cases b with
    | nil => exact .nil
    | cons y b => exact absurd ((h y).mpr (.head _)) (by simp)
  | x :: a, b, ha, hb, h => by
    have hx : x ∈ b := (h x).mp (.head _)
    refine .trans (.cons x (perm_nd (List.nodup_cons.mp ha).2 (hb.erase x) fun y => ?_)) (List.perm_cons_erase hx).symm
    rw [hb.mem_erase_iff, ← h y]
    constructor
    · intro q; exact ⟨fun e => (List.nodup_cons.mp ha).1 (e ▸ q), .tail _ q⟩
    · rintro ⟨q1, q2⟩
      rcases List.mem_cons.mp q2 with e | q2
      · exact absurd e q1
      · exact q2
theorem deg_ren {vars : List Nat} (hn : vars.Nodup) (hlt : ∀ x ∈ vars, x < 4) {x : Nat} (hx : x < 2 ^ vars.length) : (mems (ren vars x)).length = (mems x).length := by
  have h4 := nodup_le 4 _ hn hlt
  have hp := mems_lt hx
  have : (mems (ren vars x)).Perm ((mems x).map fun p => vars.getD p 0) := by
    refine perm_nd (List.nodup_range.filter _) ?_ fun i => ?_
    · refine List.pairwise_map.mpr ((List.nodup_range.filter _ : (mems x).Nodup).imp_of_mem fun {a b} ha hb hab e => hab (getD_inj hn (hp a ha) (hp b hb) e))
    · rw [mems_mem, ren_bit, List.mem_map]
      constructor
      · rintro ⟨_, p, h1, h2, e⟩; exact ⟨p, mems_mem.mpr ⟨h1, h2⟩, e⟩
      · rintro ⟨p, hpm, rfl⟩
        have : vars.getD p 0 = vars[p]'(hp p hpm) := by simp [hp p hpm]
        exact ⟨by rw [this]; exact hlt _ (List.getElem_mem _), p, (mems_mem.mp hpm).1, (mems_mem.mp hpm).2, rfl⟩
  rw [this.length_eq, List.length_map]
theorem fm_congr {α β : Type} {f g : α → List β} : ∀ {l : List α}, (∀ x ∈ l, f x = g x) → l.flatMap f = l.flatMap g
  | [], _ => rfl
  | x :: l, h => by rw [List.flatMap_cons, List.flatMap_cons, h x (.head _), fm_congr fun y hy => h y (.tail _ hy)]
theorem byDeg_map {g : Nat → Nat} {a : List Nat} (h : ∀ x ∈ a, (mems (g x)).length = (mems x).length) : byDeg (a.map g) = (byDeg a).map g := by
  unfold byDeg
  rw [List.map_flatMap]
  refine fm_congr fun d _ => ?_
  rw [List.filter_map]
  congr 1
  exact List.filter_congr fun x hx => by simp only [Function.comp, h x hx]
theorem rowS_eq {t : Tr} (hw : t.wf) : rowS t = (byDeg (sem t)).map names := by
  have E1 := ev_ok t st0 hw st0_ok
  have E2 := (ev_bits t st0).1
  have E3 := ev_sem t st0 hw st0_ok
  rw [← E3, byDeg_map fun x hx => deg_ren E1.1.nd E1.1.lt (E2 x hx)]
  unfold rowS
  rw [List.map_map, List.map_map]
  rfl
theorem byDeg_perm : ∀ {a : List Nat}, Small a → (byDeg a).Perm a
  | [], _ => .nil
  | x :: a, h => by
    have ih := byDeg_perm fun t ht => h t (.tail _ ht)
    have hd := deg_small x (h x (.head _)).2 (h x (.head _)).1
    simp only [List.mem_cons, List.not_mem_nil, or_false] at hd
    unfold byDeg at ih ⊢
    simp only [List.flatMap_cons, List.flatMap_nil, List.append_nil, List.filter_cons] at ih ⊢
    rcases hd with e | e | e | e <;> simp only [e, beq_self_eq_true, if_true, Nat.reduceBEq, Bool.false_eq_true, if_false]
    · exact ih.cons x
    · exact List.perm_middle.trans (ih.cons x)
    · rw [← List.append_assoc]
      exact List.perm_middle.trans (List.Perm.cons x (by rw [List.append_assoc]; exact ih))
    · rw [← List.append_assoc, ← List.append_assoc]
      exact List.perm_middle.trans (List.Perm.cons x (by rw [List.append_assoc, List.append_assoc]; exact ih))
theorem rowS_perm {t u : Tr} (hw : t.wf) (hu : u.wf) (h : ∀ x, x ∈ sem t ↔ x ∈ sem u) : (rowS t).Perm (rowS u) := by
  rw [rowS_eq hw, rowS_eq hu]
  have a := sem_ok t hw
  have b := sem_ok u hu
  exact (((byDeg_perm a.sm).trans (perm_nd a.nd b.nd h)).trans (byDeg_perm b.sm).symm).map _
-- powers
noncomputable def pwS (a : List Nat) (k : Nat) : List Nat := (List.range k).foldl (fun f _ => crs f a) a
theorem pwS_succ (a : List Nat) (k : Nat) : pwS a (k + 1) = crs (pwS a k) a := by
  unfold pwS
  rw [List.range_succ, List.foldl_append]; rfl
theorem joi_one (x : Nat) : joi [x] = x := by simp [joi]
theorem mem_pw {a : List Nat} : ∀ {k t : Nat}, t ∈ pwS a k ↔ ∃ l : List Nat, l.length = k + 1 ∧ (∀ x ∈ l, x ∈ a) ∧ t = joi l
  | 0, t => by
    show t ∈ a ↔ _
    constructor
    · intro h; exact ⟨[t], rfl, fun x hx => by have : x = t := by simpa using hx
                                               exact this ▸ h, (joi_one t).symm⟩
    · rintro ⟨l, hl, hs, rfl⟩
      match l, hl with
      | [x], _ => rw [joi_one]; exact hs x (.head _)
  | k + 1, t => by
    rw [pwS_succ, mem_crs]
    constructor
    · rintro ⟨u, hu, y, hy, rfl⟩
      obtain ⟨l, hl, hs, rfl⟩ := mem_pw.mp hu
      exact ⟨l ++ [y], by simp [hl], fun x hx => (List.mem_append.mp hx).elim (hs x) fun q => by
        have : x = y := by simpa using q
        exact this ▸ hy, by rw [joi_append, joi_one]⟩
    · rintro ⟨l, hl, hs, rfl⟩
      match l, hl with
      | x :: l', hl =>
        have hl' : l'.length = k + 1 := by simpa using hl
        refine ⟨joi l', mem_pw.mpr ⟨l', hl', fun z hz => hs z (.tail _ hz), rfl⟩, x, hs x (.head _), ?_⟩
        rw [joi_cons, Nat.or_comm]
theorem joi_same {a b : List Nat} (h : ∀ x, x ∈ a ↔ x ∈ b) : joi a = joi b := by
  refine Nat.eq_of_testBit_eq fun i => ?_
  rw [joi_bit, joi_bit, Bool.eq_iff_iff]
  simp only [List.any_eq_true]
  exact ⟨fun ⟨x, hx, e⟩ => ⟨x, (h x).mp hx, e⟩, fun ⟨x, hx, e⟩ => ⟨x, (h x).mpr hx, e⟩⟩
theorem pw_step {a : List Nat} {k t : Nat} (h : t ∈ pwS a k) : t ∈ pwS a (k + 1) := by
  obtain ⟨l, hl, hs, rfl⟩ := mem_pw.mp h
  match l, hl with
  | x :: l', hl =>
    refine mem_pw.mpr ⟨x :: x :: l', by simpa using hl, fun z hz => ?_, joi_same fun z => by simp⟩
    rcases List.mem_cons.mp hz with rfl | hz
    · exact hs _ (.head _)
    · exact hs z hz
theorem pw_mono {a : List Nat} {k j t : Nat} (hk : k ≤ j) (h : t ∈ pwS a k) : t ∈ pwS a j := by
  induction hk with
  | refl => exact h
  | step _ ih => exact pw_step ih
theorem pw_sat {a : List Nat} {k t : Nat} (hn : a.Nodup) (h : t ∈ pwS a k) : t ∈ pwS a (a.length - 1) := by
  obtain ⟨l, hl, hs, rfl⟩ := mem_pw.mp h
  have hmem : ∀ x, x ∈ a.filter (fun x => decide (x ∈ l)) ↔ x ∈ l := fun x => by
    rw [List.mem_filter]
    simp only [decide_eq_true_eq]
    exact ⟨fun q => q.2, fun q => ⟨hs x q, q⟩⟩
  have hlen := List.length_filter_le (fun x => decide (x ∈ l)) a
  have hpos : 0 < (a.filter fun x => decide (x ∈ l)).length := by
    match l, hl with
    | x :: l', _ => exact List.length_pos_of_mem ((hmem x).mpr (.head _))
  rw [← joi_same hmem]
  exact pw_mono (k := (a.filter fun x => decide (x ∈ l)).length - 1) (by omega) (mem_pw.mpr ⟨_, by omega, fun x hx => (List.mem_filter.mp hx).1, rfl⟩)
theorem pw_same {a : List Nat} {k j : Nat} (hn : a.Nodup) (hk : a.length - 1 ≤ k) (hj : a.length - 1 ≤ j) (t : Nat) : t ∈ pwS a k ↔ t ∈ pwS a j :=
  ⟨fun h => pw_mono hj (pw_sat hn h), fun h => pw_mono hk (pw_sat hn h)⟩
noncomputable def crT (x : Tr) : Nat → Tr
  | 0 => x
  | k + 1 => twoT .star (crT x k) x
theorem crT_mem (x : Tr) : ∀ (k t : Nat), t ∈ sem (crT x k) ↔ t ∈ pwS (sem x) k
  | 0, t => Iff.rfl
  | k + 1, t => by
    show t ∈ uni (uni (sem (crT x k)) (sem x)) (crs (sem (crT x k)) (sem x)) ↔ _
    rw [mem_uni, mem_uni, mem_crs, crT_mem x k, pwS_succ, mem_crs]
    constructor
    · rintro ((h | h) | ⟨u, hu, y, hy, e⟩)
      · have := pw_step h
        rwa [pwS_succ, mem_crs] at this
      · have := pw_mono (Nat.zero_le (k + 1)) (show t ∈ pwS (sem x) 0 from h)
        rwa [pwS_succ, mem_crs] at this
      · exact ⟨u, (crT_mem x k u).mp hu, y, hy, e⟩
    · rintro ⟨u, hu, y, hy, e⟩
      exact .inr ⟨u, (crT_mem x k u).mpr hu, y, hy, e⟩
theorem crT_wf {x : Tr} (h : x.wf) : ∀ k, (crT x k).wf
  | 0 => h
  | k + 1 => ⟨crT_wf h k, h⟩
theorem crT_ht (x : Tr) : ∀ k, (crT x k).ht ≤ x.ht + 2 * k
  | 0 => Nat.le_refl _
  | k + 1 => by
    have := crT_ht x k
    show max ((crT x k).ht + 1) (x.ht + 1) + 1 ≤ _
    omega
theorem rowS_len {x : Tr} (h : x.wf) : (rowS x).length = (sem x).length := by
  rw [rowS_eq h, List.length_map, deg_row (sem_ok x h).sm]
theorem chk5 {x : Tr} {h : Nat} (hx : x.wf) (h1 : 1 ≤ h) (t : Nat) : t ∈ sem (.pw (.par x) h) ↔ t ∈ sem (crT x (h - 1)) := by
  rw [crT_mem]
  show t ∈ pwS (sem x) (min (h - 1) (sem x).length) ↔ _
  rcases Nat.le_total (h - 1) (sem x).length with q | q
  · rw [Nat.min_eq_left q]
  · rw [Nat.min_eq_right q]
    exact pw_same (sem_ok x hx).nd (by omega) (by omega) t
theorem chk6 {x : Tr} (hx : x.wf) (t : Nat) : t ∈ sem (.pw (.par x) (sem x).length) ↔ t ∈ sem (.pw (.par x) ((sem x).length + 2)) := by
  show t ∈ pwS (sem x) (min ((sem x).length - 1) (sem x).length) ↔ t ∈ pwS (sem x) (min ((sem x).length + 2 - 1) (sem x).length)
  exact pw_same (sem_ok x hx).nd (by omega) (by omega) t
theorem two_wf {o : Op} {a b : Tr} (ha : a.wf) (hb : b.wf) : (twoT o a b).wf := ⟨ha, hb⟩
theorem chk1 (a b z : Tr) (t : Nat) : t ∈ sem (twoT .colon (twoT .plus a b) z) ↔ t ∈ sem (twoT .plus (twoT .colon a z) (twoT .colon b z)) := by
  show t ∈ crs (uni (sem a) (sem b)) (sem z) ↔ t ∈ uni (crs (sem a) (sem z)) (crs (sem b) (sem z))
  rw [mem_uni, mem_crs, mem_crs, mem_crs]
  constructor
  · rintro ⟨x, hx, y, hy, e⟩
    exact (mem_uni.mp hx).imp (fun q => ⟨x, q, y, hy, e⟩) fun q => ⟨x, q, y, hy, e⟩
  · rintro (⟨x, hx, r⟩ | ⟨x, hx, r⟩)
    · exact ⟨x, mem_uni.mpr (.inl hx), r⟩
    · exact ⟨x, mem_uni.mpr (.inr hx), r⟩
theorem chk2 (a b z : Tr) (t : Nat) : t ∈ sem (twoT .colon z (twoT .plus a b)) ↔ t ∈ sem (twoT .plus (twoT .colon z a) (twoT .colon z b)) := by
  show t ∈ crs (sem z) (uni (sem a) (sem b)) ↔ t ∈ uni (crs (sem z) (sem a)) (crs (sem z) (sem b))
  rw [mem_uni, mem_crs, mem_crs, mem_crs]
  constructor
  · rintro ⟨x, hx, y, hy, e⟩
    exact (mem_uni.mp hy).imp (fun q => ⟨x, hx, y, q, e⟩) fun q => ⟨x, hx, y, q, e⟩
  · rintro (⟨x, hx, y, hy, e⟩ | ⟨x, hx, y, hy, e⟩)
    · exact ⟨x, hx, y, mem_uni.mpr (.inl hy), e⟩
    · exact ⟨x, hx, y, mem_uni.mpr (.inr hy), e⟩
theorem chk3 {a b : Tr} (ha : a.wf) (hb : b.wf) : rowS (twoT .star a b) = rowS (twoT .plus (twoT .plus a b) (twoT .colon a b)) := by
  rw [rowS_eq (two_wf ha hb), rowS_eq (two_wf (two_wf ha hb) (two_wf ha hb))]; rfl
theorem chk4a (a b : Tr) (t : Nat) : t ∈ sem (twoT .plus a b) ↔ t ∈ sem (twoT .plus b a) := by
  show t ∈ uni (sem a) (sem b) ↔ t ∈ uni (sem b) (sem a)
  rw [mem_uni, mem_uni, or_comm]
theorem chk4b (a b : Tr) (t : Nat) : t ∈ sem (twoT .colon a b) ↔ t ∈ sem (twoT .colon b a) := by
  show t ∈ crs (sem a) (sem b) ↔ t ∈ crs (sem b) (sem a)
  rw [mem_crs, mem_crs]
  exact ⟨fun ⟨x, hx, y, hy, e⟩ => ⟨y, hy, x, hx, by rw [e, Nat.or_comm]⟩, fun ⟨x, hx, y, hy, e⟩ => ⟨y, hy, x, hx, by rw [e, Nat.or_comm]⟩⟩
theorem chk7a {a : Tr} (b : Tr) (h : (sem a).length = 1) (t : Nat) : t ∈ sem (twoT .slash a b) ↔ t ∈ sem (twoT .plus a (twoT .colon a b)) := by
  show t ∈ uni (sem a) (crs (sem b) [joi (sem a)]) ↔ t ∈ uni (sem a) (crs (sem a) (sem b))
  match hs : sem a, h with
  | [x], _ =>
    rw [mem_uni, mem_uni, mem_crs, mem_crs, joi_one]
    refine or_congr Iff.rfl ⟨?_, ?_⟩
    · rintro ⟨y, hy, z, hz, e⟩
      have : z = x := by simpa using hz
      exact ⟨x, .head _, y, hy, by rw [e, this, Nat.or_comm]⟩
    · rintro ⟨z, hz, y, hy, e⟩
      have : z = x := by simpa using hz
      exact ⟨y, hy, x, .head _, by rw [e, this, Nat.or_comm]⟩
theorem chk7b {a : Tr} (b : Tr) (h : (sem a).length = 1) (t : Nat) : t ∈ sem (twoT .inn b a) ↔ t ∈ sem (twoT .colon b a) := by
  show t ∈ crs (sem b) [joi (sem a)] ↔ t ∈ crs (sem b) (sem a)
  match hs : sem a, h with
  | [x], _ => rw [joi_one]
theorem foldl_ins_same : ∀ (l r : List Nat), (∀ x ∈ l, x ∈ r) → l.foldl ins r = r
  | [], _, _ => rfl
  | x :: l, r, h => by
    have : ins r x = r := by unfold ins; rw [if_pos (h x (.head _))]
    rw [List.foldl_cons, this, foldl_ins_same l r fun y hy => h y (.tail _ hy)]
theorem foldl_ins_new : ∀ (l r : List Nat), (r ++ l).Nodup → l.foldl ins r = r ++ l
  | [], r, _ => by simp
  | x :: l, r, h => by
    have hx : x ∉ r := fun q => by
      have := (List.nodup_append.mp h).2.2 x q x (.head _)
      exact this rfl
    have : ins r x = r ++ [x] := by unfold ins; rw [if_neg hx]
    rw [List.foldl_cons, this, foldl_ins_new l (r ++ [x]) (by rw [List.append_assoc]; exact h), List.append_assoc]; rfl
theorem uni_self {a : List Nat} (h : a.Nodup) : uni a a = a := by
  unfold uni
  rw [List.foldl_append, foldl_ins_new a [] (by simpa using h)]
  exact foldl_ins_same a _ fun x hx => by simpa using hx
theorem uni_new {a : List Nat} {x : Nat} (h : a.Nodup) (hx : x ∉ a) : uni a [x] = a ++ [x] := by
  unfold uni
  rw [foldl_ins_new _ [] ?_]
  · simp
  · rw [List.nil_append, List.nodup_append]
    exact ⟨h, by simp, fun p hp q hq e => hx (by have : q = x := by simpa using hq
                                                 rw [← this, ← e]; exact hp)⟩
theorem chk8a {a : Tr} (ha : a.wf) : rowS (twoT .plus a a) = rowS a := by
  rw [rowS_eq (two_wf ha ha), rowS_eq ha]
  show (byDeg (uni (sem a) (sem a))).map names = _
  rw [uni_self (sem_ok a ha).nd]
theorem minus_self (a : List Nat) : opF .minus a a = [] := by
  show (a.filter fun t => !decide (t ∈ a)) = []
  rw [List.filter_eq_nil_iff]
  intro t ht
  simp [ht]
theorem chk8b {a : Tr} (ha : a.wf) : rowS (twoT .minus a a) = [] := by
  rw [rowS_eq (two_wf ha ha)]
  show (byDeg (opF .minus (sem a) (sem a))).map names = _
  rw [minus_self]; rfl
-- the formula written back
theorem crs_one (x y : Nat) : crs [x] [y] = [x ||| y] := by simp [crs, crs1, ins]
theorem lm_cons (i : Nat) (l : List Nat) : lm (i :: l) = 2 ^ i ||| lm l := by
  unfold lm; rw [List.map_cons, joi_cons]
theorem sem_tl {vars : List Nat} : ∀ {ms : List Nat}, ms ≠ [] → sem (tlT vars ms) = [lm (ms.map fun p => vars.getD p 0)]
  | [], h => absurd rfl h
  | p :: ps, _ => by
    have go : ∀ (ps : List Nat) (e : Tr) (x : Nat), sem e = [x] → sem (ps.foldl (fun e q => .bi .colon e (.sy (vars.getD q 0))) e) = [x ||| lm (ps.map fun p => vars.getD p 0)] := by
      intro ps
      induction ps with
      | nil => intro e x h; simpa [lm, joi] using h
      | cons q ps ih =>
        intro e x h
        rw [List.foldl_cons, ih _ (x ||| 2 ^ vars.getD q 0) ?_, List.map_cons, lm_cons, Nat.or_assoc]
        show crs (sem e) [2 ^ vars.getD q 0] = _
        rw [h, crs_one]
    rw [List.map_cons, lm_cons]
    exact go ps _ _ rfl
theorem sem_rsE {vars : List Nat} : ∀ {facs : List (List Nat)}, (∀ ms ∈ facs, ms ≠ []) → (facs.map fun ms => lm (ms.map fun p => vars.getD p 0)).Nodup →
    match rsE vars facs with
    | none => facs = []
    | some e => sem e = facs.map fun ms => lm (ms.map fun p => vars.getD p 0)
  | [], _, _ => rfl
  | f :: fs, h0, hn => by
    have go : ∀ (fs : List (List Nat)) (e : Tr), (∀ ms ∈ fs, ms ≠ []) → (sem e ++ fs.map fun ms => lm (ms.map fun p => vars.getD p 0)).Nodup → sem (fs.foldl (fun e q => .bi .plus e (tlT vars q)) e) = sem e ++ fs.map fun ms => lm (ms.map fun p => vars.getD p 0) := by
      intro fs
      induction fs with
      | nil => intro e _ _; simp
      | cons f fs ih =>
        intro e h0 hn
        have hs : sem (.bi .plus e (tlT vars f)) = sem e ++ [lm (f.map fun p => vars.getD p 0)] := by
          show uni (sem e) (sem (tlT vars f)) = _
          rw [sem_tl (h0 f (.head _))]
          have n2 := List.nodup_append.mp hn
          exact uni_new n2.1 fun q => n2.2.2 _ q _ (.head _) rfl
        rw [List.foldl_cons, ih _ (fun ms hm => h0 ms (.tail _ hm)) (by rw [hs, List.append_assoc]; exact hn), hs, List.append_assoc]; rfl
    show sem (fs.foldl (fun e q => .bi .plus e (tlT vars q)) (tlT vars f)) = _
    have hf := sem_tl (vars := vars) (h0 f (.head _))
    rw [go fs _ (fun ms hm => h0 ms (.tail _ hm)) (by rw [hf]; exact hn), hf]; rfl
theorem filter_filter_deg (a : List Nat) (k d : Nat) : ((a.filter fun t => (mems t).length == k).filter fun t => (mems t).length == d) = if k = d then a.filter fun t => (mems t).length == d else [] := by
  rw [List.filter_filter]
  split
  · rename_i h
    subst h
    refine List.filter_congr fun t _ => ?_
    simp
  · rename_i h
    rw [List.filter_eq_nil_iff]
    intro t _
    simp only [Bool.and_eq_true, beq_iff_eq]
    rintro ⟨h1, h2⟩
    exact h (h2.symm.trans h1)
theorem byDeg_idem (a : List Nat) : byDeg (byDeg a) = byDeg a := by
  have key : ∀ d ∈ [1, 2, 3, 4], (byDeg a).filter (fun t => (mems t).length == d) = a.filter fun t => (mems t).length == d := by
    intro d hd
    unfold byDeg
    simp only [List.flatMap_cons, List.flatMap_nil, List.append_nil, List.filter_append, filter_filter_deg]
    simp only [List.mem_cons, List.not_mem_nil, or_false] at hd
    rcases hd with rfl | rfl | rfl | rfl <;> simp
  conv => lhs; unfold byDeg
  conv => rhs; unfold byDeg
  exact fm_congr key
/-- the tree of what was told -/
noncomputable def back (t : Tr) : Tr := rsT (ev t st0).2.vars ((byDeg (ev t st0).1).map mems) (ev t st0).2.icp
theorem mems_ne {x : Nat} (h : 0 < x ∧ x < 16) : mems x ≠ [] := fun e => by
  have := deg_small x h.2 h.1
  rw [e] at this
  simp at this
theorem sem_back {t : Tr} (hw : t.wf) : sem (back t) = byDeg (sem t) := by
  have E1 := ev_ok t st0 hw st0_ok
  have E2 := (ev_bits t st0).1
  have E3 := ev_sem t st0 hw st0_ok
  have hmap : (((byDeg (ev t st0).1).map mems).map fun ms => lm (ms.map fun p => (ev t st0).2.vars.getD p 0)) = byDeg (sem t) := by
    rw [← E3, byDeg_map fun x hx => deg_ren E1.1.nd E1.1.lt (E2 x hx), List.map_map]
    rfl
  have S := sem_ok t hw
  have hnd : (byDeg (sem t)).Nodup := (byDeg_perm S.sm).nodup_iff.mpr S.nd
  have key := sem_rsE (vars := (ev t st0).2.vars) (facs := (byDeg (ev t st0).1).map mems) (fun ms hm => by
    obtain ⟨x, hx, rfl⟩ := List.mem_map.mp hm
    exact mems_ne (E1.2.sm x (byDeg_mem hx))) (by rw [hmap]; exact hnd)
  rw [hmap] at key
  unfold back rsT
  cases hE : rsE (ev t st0).2.vars ((byDeg (ev t st0).1).map mems) with
  | none =>
    rw [hE] at key
    have k : (byDeg (ev t st0).1).map mems = [] := key
    rw [k] at hmap
    have : byDeg (sem t) = [] := by rw [← hmap]; rfl
    rw [this]
    dsimp only
    split <;> rfl
  | some e =>
    rw [hE] at key
    have k : sem e = byDeg (sem t) := key
    dsimp only
    split
    · exact k
    · show (sem e).filter (fun t => !decide (t ∈ ([] : List Nat))) = _
      rw [k]
      exact List.filter_eq_self.mpr fun _ _ => by simp
theorem getD_wf {vars : List Nat} (h : ∀ x ∈ vars, x < 4) (p : Nat) : vars.getD p 0 < 4 := by
  rcases Nat.lt_or_ge p vars.length with q | q
  · have : vars.getD p 0 = vars[p] := by simp [q]
    rw [this]; exact h _ (List.getElem_mem _)
  · have : vars.getD p 0 = 0 := by simp [List.getD, List.getElem?_eq_none q]
    omega
theorem tl_wf {vars : List Nat} (h : ∀ x ∈ vars, x < 4) : ∀ ms : List Nat, (tlT vars ms).wf ∧ (tlT vars ms).ht ≤ ms.length
  | [] => ⟨show 0 ≤ 1 by decide, Nat.le_refl _⟩
  | p :: ps => by
    have go : ∀ (ps : List Nat) (e : Tr), e.wf → (ps.foldl (fun e q => Tr.bi .colon e (.sy (vars.getD q 0))) e).wf ∧ (ps.foldl (fun e q => Tr.bi .colon e (.sy (vars.getD q 0))) e).ht ≤ e.ht + ps.length := by
      intro ps
      induction ps with
      | nil => intro e h; exact ⟨h, Nat.le_refl _⟩
      | cons q ps ih =>
        intro e he
        have := ih (.bi .colon e (.sy (vars.getD q 0))) ⟨he, getD_wf h q⟩
        refine ⟨this.1, Nat.le_trans this.2 ?_⟩
        show max e.ht 0 + 1 + ps.length ≤ e.ht + (ps.length + 1)
        omega
    have := go ps (.sy (vars.getD p 0)) (getD_wf h p)
    refine ⟨this.1, Nat.le_trans this.2 ?_⟩
    show 0 + ps.length ≤ ps.length + 1
    omega
theorem rsE_wf {vars : List Nat} (h : ∀ x ∈ vars, x < 4) : ∀ {facs : List (List Nat)}, (∀ ms ∈ facs, ms.length ≤ 4) → ∀ e, rsE vars facs = some e → e.wf ∧ e.ht ≤ 4 + facs.length
  | [], _, _, he => by cases he
  | f :: fs, hl, e, he => by
    have go : ∀ (fs : List (List Nat)) (e : Tr), (∀ ms ∈ fs, ms.length ≤ 4) → e.wf → 4 ≤ e.ht + 4 → (fs.foldl (fun e q => Tr.bi .plus e (tlT vars q)) e).wf ∧ (fs.foldl (fun e q => Tr.bi .plus e (tlT vars q)) e).ht ≤ max e.ht 4 + fs.length := by
      intro fs
      induction fs with
      | nil => intro e _ h _; exact ⟨h, Nat.le_max_left _ _⟩
      | cons f fs ih =>
        intro e hl he h4
        have tw := tl_wf h f
        have hf := hl f (.head _)
        have := ih (.bi .plus e (tlT vars f)) (fun ms hm => hl ms (.tail _ hm)) ⟨he, tw.1⟩ (by omega)
        refine ⟨this.1, Nat.le_trans this.2 ?_⟩
        show max (max e.ht (tlT vars f).ht + 1) 4 + fs.length ≤ max e.ht 4 + (fs.length + 1)
        omega
    have tw := tl_wf h f
    have hf := hl f (.head _)
    have := go fs (tlT vars f) (fun ms hm => hl ms (.tail _ hm)) tw.1 (by omega)
    have e' : fs.foldl (fun e q => Tr.bi .plus e (tlT vars q)) (tlT vars f) = e := Option.some.inj he
    rw [e'] at this
    refine ⟨this.1, Nat.le_trans this.2 ?_⟩
    show max (tlT vars f).ht 4 + fs.length ≤ 4 + (fs.length + 1)
    omega
theorem facs_len {t : Tr} (hw : t.wf) : ((byDeg (ev t st0).1).map mems).length ≤ 16 := by
  have E1 := ev_ok t st0 hw st0_ok
  rw [List.length_map, deg_row E1.2.sm]
  exact E1.2.len
theorem back_wf {t : Tr} (hw : t.wf) : (back t).wf ∧ (back t).ht ≤ 21 := by
  have F := fit_of hw
  have hl := facs_len hw
  have hr := rsE_wf (vars := (ev t st0).2.vars) F.lt (facs := (byDeg (ev t st0).1).map mems) fun ms hm => (F.ms ms hm).2.2
  unfold back rsT
  cases hE : rsE (ev t st0).2.vars ((byDeg (ev t st0).1).map mems) with
  | none =>
    dsimp only
    split
    · exact ⟨Nat.le_refl 1, by show 0 ≤ 21; decide⟩
    · exact ⟨Nat.le_refl 1, by show 0 + 1 ≤ 21; decide⟩
  | some e =>
    obtain ⟨h1, h2⟩ := hr e hE
    dsimp only
    split
    · exact ⟨h1, by omega⟩
    · exact ⟨⟨h1, Nat.le_refl 1⟩, by show max e.ht 0 + 1 ≤ 21; omega⟩
theorem fac_ok {t : Tr} (hw : t.wf) : FacOk (ev t st0).2.vars ((byDeg (ev t st0).1).map mems) := by
  have F := fit_of hw
  have E1 := ev_ok t st0 hw st0_ok
  refine ⟨Nat.le_trans (nodup_le 4 _ F.nd F.lt) (by decide), Nat.le_trans F.len (by decide), fun ms hm => ⟨?_, (F.ms ms hm).2.1, Nat.le_trans (F.ms ms hm).2.2 (by decide)⟩⟩
  obtain ⟨x, hx, rfl⟩ := List.mem_map.mp hm
  exact mems_ne (E1.2.sm x (byDeg_mem hx))
theorem chk9 {t : Tr} (hw : t.wf) : rowS (back t) = rowS t := by
  rw [rowS_eq (back_wf hw).1, rowS_eq hw, sem_back hw, byDeg_idem]
-- the intercept
noncomputable def nn : Tr → Prop
  | .sy _ => True
  | .nu _ => False
  | .par x => nn x
  | .neg x => nn x
  | .bi _ x y => nn x ∧ nn y
  | .pw x _ => nn x
theorem ev_add : ∀ (t : Tr) (st : RS), (ev t st).2.add = st.add
  | .sy _, _ => rfl
  | .nu _, _ => rfl
  | .par x, st => ev_add x st
  | .neg x, st => by
    show (!(ev x { st with add := !st.add }).2.add) = st.add
    rw [ev_add x]; simp
  | .bi .minus x y, st => by
    show (!(ev y { (ev x st).2 with add := !(ev x st).2.add }).2.add) = st.add
    rw [ev_add y]; simp [ev_add x]
  | .bi .plus x y, st => (ev_add y (ev x st).2).trans (ev_add x st)
  | .bi .colon x y, st => (ev_add y (ev x st).2).trans (ev_add x st)
  | .bi .star x y, st => (ev_add y (ev x st).2).trans (ev_add x st)
  | .bi .inn x y, st => (ev_add y (ev x st).2).trans (ev_add x st)
  | .bi .slash x y, st => (ev_add y (ev x st).2).trans (ev_add x st)
  | .pw x _, st => ev_add x st
theorem ev_nn : ∀ (t : Tr) (st : RS), nn t → (ev t st).2.icp = st.icp
  | .sy _, _, _ => rfl
  | .par x, st, h => ev_nn x st h
  | .neg x, st, h => ev_nn x { st with add := !st.add } h
  | .bi .minus x y, st, h => (ev_nn y { (ev x st).2 with add := !(ev x st).2.add } h.2).trans (ev_nn x st h.1)
  | .bi .plus x y, st, h => (ev_nn y (ev x st).2 h.2).trans (ev_nn x st h.1)
  | .bi .colon x y, st, h => (ev_nn y (ev x st).2 h.2).trans (ev_nn x st h.1)
  | .bi .star x y, st, h => (ev_nn y (ev x st).2 h.2).trans (ev_nn x st h.1)
  | .bi .inn x y, st, h => (ev_nn y (ev x st).2 h.2).trans (ev_nn x st h.1)
  | .bi .slash x y, st, h => (ev_nn y (ev x st).2 h.2).trans (ev_nn x st h.1)
  | .pw x _, st, h => ev_nn x st h
theorem tl_nn (vars : List Nat) : ∀ ms : List Nat, ms ≠ [] → nn (tlT vars ms)
  | [], h => absurd rfl h
  | p :: ps, _ => by
    have go : ∀ (ps : List Nat) (e : Tr), nn e → nn (ps.foldl (fun e q => Tr.bi .colon e (.sy (vars.getD q 0))) e) := by
      intro ps
      induction ps with
      | nil => intro e h; exact h
      | cons q ps ih => intro e h; exact ih _ ⟨h, trivial⟩
    exact go ps _ trivial
theorem rsE_nn (vars : List Nat) : ∀ {facs : List (List Nat)}, (∀ ms ∈ facs, ms ≠ []) → ∀ e, rsE vars facs = some e → nn e
  | [], _, _, he => by cases he
  | f :: fs, h0, e, he => by
    have go : ∀ (fs : List (List Nat)) (e : Tr), (∀ ms ∈ fs, ms ≠ []) → nn e → nn (fs.foldl (fun e q => Tr.bi .plus e (tlT vars q)) e) := by
      intro fs
      induction fs with
      | nil => intro e _ h; exact h
      | cons f fs ih => intro e h0 h; exact ih _ (fun ms hm => h0 ms (.tail _ hm)) ⟨h, tl_nn vars f (h0 f (.head _))⟩
    have := go fs (tlT vars f) (fun ms hm => h0 ms (.tail _ hm)) (tl_nn vars f (h0 f (.head _)))
    have e' : fs.foldl (fun e q => Tr.bi .plus e (tlT vars q)) (tlT vars f) = e := Option.some.inj he
    exact e' ▸ this
theorem back_icp {t : Tr} (hw : t.wf) : (ev (back t) st0).2.icp = (ev t st0).2.icp := by
  have hr := rsE_nn (ev t st0).2.vars (facs := (byDeg (ev t st0).1).map mems) fun ms hm => ((fac_ok hw).2.2 ms hm).1
  unfold back rsT
  cases hE : rsE (ev t st0).2.vars ((byDeg (ev t st0).1).map mems) with
  | none =>
    dsimp only
    cases (ev t st0).2.icp <;> rfl
  | some e =>
    have hn := hr e hE
    dsimp only
    cases (ev t st0).2.icp with
    | true => exact ev_nn e st0 hn
    | false =>
      show (((1 : Nat) == 1) == !(ev e st0).2.add) = false
      rw [ev_add]; rfl
theorem side_wf {sh i j : Nat} (hi : i < 4) (hj : j < 4) : (sideT sh i j).wf := by
  unfold sideT
  split
  · exact hi
  · split
    · exact ⟨hi, hj⟩
    · split
      · exact ⟨hi, hj⟩
      · exact ⟨hi, hj⟩
theorem side_nn (sh i j : Nat) : nn (sideT sh i j) := by
  unfold sideT
  split
  · trivial
  · split
    · exact ⟨trivial, trivial⟩
    · split
      · exact ⟨trivial, trivial⟩
      · exact ⟨trivial, trivial⟩
theorem side_ht (sh i j : Nat) : (sideT sh i j).ht ≤ 2 := by
  unfold sideT
  split
  · exact Nat.zero_le _
  · split
    · exact Nat.le_refl 2
    · split
      · exact Nat.le_succ 1
      · exact Nat.le_succ 1
theorem side_ne (sh i j : Nat) : ∃ x, x ∈ sem (sideT sh i j) := by
  unfold sideT
  split
  · exact ⟨_, .head _⟩
  · split
    · exact ⟨2 ^ i, mem_uni.mpr (.inl (mem_uni.mpr (.inl (.head _))))⟩
    · split
      · exact ⟨2 ^ i, mem_uni.mpr (.inl (.head _))⟩
      · exact ⟨2 ^ i ||| 2 ^ j, mem_crs.mpr ⟨_, .head _, _, .head _, rfl⟩⟩
theorem icp_a {a : Tr} (h : nn a) : (ev a st0).2.icp = true := ev_nn a st0 h
theorem icp_m {a : Tr} (h : nn a) : (ev (.bi .minus a a) st0).2.icp = true := ev_nn (.bi .minus a a) st0 ⟨h, h⟩
theorem icp_0 {a : Tr} (h : nn a) : (ev (.bi .plus (.nu 0) a) st0).2.icp = false := (ev_nn a _ h).trans rfl
theorem icp_1 {x : Tr} : (ev (twoT .minus x (.nu 1)) st0).2.icp = false := by
  show (((1 : Nat) == 1) == !(ev x st0).2.add) = false
  rw [ev_add]; rfl
noncomputable def fn_law (fa : Addr) (cd : Value) : Fn := ⟨s "law", scoOf (stIn P0 47), fa, cd⟩
noncomputable abbrev bd_law : List Stmt := bodOf (stIn P0 47)
theorem G_law0 : FnG (fn_law 0 .none) [s "script", s "a", s "b", s "c", s "summed_sides", s "height_of_it", s "crossed_often", s "lap", s "inner", s "many", s "side", s "free", s "told"]
  [s "_law_side", s "_law_two", s "_law_same", s "_law_row", s "_law_figure", s "range", s "call_of", s "number", s "len", s "expand", s "formula_of"] := fnG_of (by kernel_rfl)
theorem G_law (fa : Addr) (cd : Value) : FnG (fn_law fa cd) [s "script", s "a", s "b", s "c", s "summed_sides", s "height_of_it", s "crossed_often", s "lap", s "inner", s "many", s "side", s "free", s "told"]
  [s "_law_side", s "_law_two", s "_law_same", s "_law_row", s "_law_figure", s "range", s "call_of", s "number", s "len", s "expand", s "formula_of"] := ⟨G_law0.kind, G_law0.co, G_law0.gen, G_law0.nd, G_law0.loc, G_law0.glo⟩
theorem cell_law (fa : Addr) (cd : Value) : (fn_law fa cd).cs.names.lookup (s "again") = some .cell := by
  have : (fn_law 0 .none).cs.names.lookup (s "again") = some .cell := by kernel_rfl
  exact this
theorem loose_eq : looseW (QG P0) looseV = looseV := by kernel_rfl
structure LF (N : Led) (va vb vc vS : Value) (A B C : Tr) : Prop where
  a : Rep N va A
  b : Rep N vb B
  c : Rep N vc C
  s : Rep N vS (twoT .plus A B)
theorem LF.sub {N N' : Led} {va vb vc vS : Value} {A B C : Tr} (h : LF N va vb vc vS A B C) (k : Sub N N') : LF N' va vb vc vS A B C := ⟨h.a.sub k, h.b.sub k, h.c.sub k, h.s.sub k⟩
structure LT (A B C : Tr) : Prop where
  wA : A.wf
  wB : B.wf
  wC : C.wf
  nA : nn A
  nB : nn B
  tA : A.ht ≤ 2
  tB : B.ht ≤ 2
  tC : C.ht ≤ 2
  eA : ∃ x, x ∈ sem A
structure LC (w : World) (c : Fx) (ca : Addr) : Prop where
  ok : c.Ok w
  room : c.dp < 400
  un : c.un < 100
  cl : c.cl = [(s "again", ca)]
theorem rlim : recursionLimit = 1000 := rfl
theorem clim : cLine = 9900 := rfl
section
variable {w : World} {c : Fx} {f : Fn} {m : Loc} {N : Led}
set_option maxHeartbeats 8000000 in
theorem law_17 {fa : Addr} {cd : Value} {l : Addr} {ca : Addr} {co : Obj} {va vb vc vS : Value} {A B C : Tr} {o5 o6 o7 o8 o9 : Option Value} (H : LC w c ca) (L : LF N va vb vc vS A B C) (T : LT A B C) (hco : co.data = .cell none) (o0 : Off N [(ca, co)]) :
    Sat w c (fn_law fa cd) (execs (bd_law.drop 17) (c.env (fn_law fa cd))) (lk [s "script", s "a", s "b", s "c", s "summed_sides", s "height_of_it", s "crossed_often", s "lap", s "inner", s "many", s "side", s "free", s "told"] [some (.ref l), some va, some vb, some vc, some vS, o5, o6, o7, o8, o9, none, none, none]) (N ++ [(ca, co)]) fun fl _ _ => fl = .ret (.bool true) := by
  have GG := G_law fa cd
  have rl := rlim
  have hc := H.ok
  have hd := H.room
  have hu := H.un
  have cl := clim
  refine sat_cons ?_
  refine sat_forL2 ?_ (by intro _; rfl)
  walk_at "W"
  rename_i T1 hT1 tk1 L1 hL1
  refine sat_frame (N := (L1, lst [va, va] 0) :: (T1, tup [va, .bool true]) :: N) (off_new (off_new o0 hT1) hL1) (c_call_of hc rfl (by omega) (.head _) (by simp) fun v2 N2 s2 hv2 o2 => ?_)
  have sb2 : Sub N N2 := fun p hp => s2 p (.tail _ (.tail _ hp))
  have r2 : Rep N2 v2 (.bi .minus A A) := ⟨va, va, hv2, L.a.sub sb2, L.a.sub sb2⟩
  walk_at "W"
  rename_i T2 hT2 tk2 tk2'
  refine sat_frame (N := (T2, tup [v2, .bool true]) :: N2) (off_new o2 hT2) (c_number hc rfl (by omega) fun v3 N3 s3 hv3 o3 => ?_)
  walk_at "W"
  rename_i L3 hL3
  refine sat_frame (N := (L3, lst [v3, va] 0) :: N3) (off_new o3 hL3) (c_call_of hc rfl (by omega) (.head _) (by simp) fun v4 N4 s4 hv4 o4 => ?_)
  have sb3 : Sub N N3 := fun p hp => s3 p (.tail _ (sb2 p hp))
  have sb34 : Sub N3 N4 := fun p hp => s4 p (.tail _ hp)
  have r4 : Rep N4 v4 (.bi .plus (.nu 0) A) := ⟨v3, va, hv4, hv3.sub sb34, L.a.sub (sb3.trans sb34)⟩
  walk_at "W"
  rename_i T3 hT3 tk3 tk3'
  refine sat_frame (N := (T3, tup [v4, .bool false]) :: N4) (off_new o4 hT3) (c_number hc rfl (by omega) fun v5 N5 s5 hv5 o5' => ?_)
  have sb4 : Sub N N5 := fun p hp => s5 p (.tail _ (sb34 p (sb3 p hp)))
  walk_at "W"
  refine sat_frame o5' (c_two (o := .minus) (y := .nu 1) hc rfl (by omega) rfl (L.s.sub sb4) hv5 fun v6 N6 s6 r6 o6' => ?_)
  walk_at "W"
  rename_i T4 hT4 LL hLL
  have q5 : Sub ((T3, tup [v4, .bool false]) :: N4) N6 := s5.trans s6
  have q3 : Sub ((T2, tup [v2, .bool true]) :: N2) N6 := s3.trans (sb34.trans (fun p hp => q5 p (.tail _ hp)))
  have q1 : Sub ((L1, lst [va, va] 0) :: (T1, tup [va, .bool true]) :: N) N6 := s2.trans fun p hp => q3 p (.tail _ hp)
  have sN6 : Sub N N6 := fun p hp => q1 p (.tail _ (.tail _ hp))
  have big : Sub N6 ((LL, lst [.ref T1, .ref T2, .ref T3, .ref T4] 0) :: (T4, tup [v6, .bool false]) :: N6) := (Sub.refl _).one.one
  have oB : Off ((LL, lst [.ref T1, .ref T2, .ref T3, .ref T4] 0) :: (T4, tup [v6, .bool false]) :: N6) [(ca, co)] := off_new (off_new o6' hT4) hLL
  have items : ∀ (i : Nat) (u : Value), ([.ref T1, .ref T2, .ref T3, .ref T4] : List Value)[i]? = some u → ∃ t a fr X, u = .ref t ∧ (t, tup [a, .bool fr]) ∈ (LL, lst [.ref T1, .ref T2, .ref T3, .ref T4] 0) :: (T4, tup [v6, .bool false]) :: N6 ∧
      Rep ((LL, lst [.ref T1, .ref T2, .ref T3, .ref T4] 0) :: (T4, tup [v6, .bool false]) :: N6) a X ∧ X.wf ∧ X.ht ≤ 10 ∧ (ev X st0).2.icp = fr := by
    intro i u hu
    have tA := T.tA
    have tB := T.tB
    match i, hu with
    | 0, hu =>
      cases hu
      exact ⟨T1, va, true, A, rfl, big _ (q1 _ (.tail _ (.head _))), (L.a.sub sN6).sub big, T.wA, by omega, icp_a T.nA⟩
    | 1, hu =>
      cases hu
      exact ⟨T2, v2, true, .bi .minus A A, rfl, big _ (q3 _ (.head _)), (r2.sub fun p hp => q3 p (.tail _ hp)).sub big, ⟨T.wA, T.wA⟩, by show max A.ht A.ht + 1 ≤ 10; omega, icp_m T.nA⟩
    | 2, hu =>
      cases hu
      exact ⟨T3, v4, false, .bi .plus (.nu 0) A, rfl, big _ (q5 _ (.head _)), (r4.sub fun p hp => q5 p (.tail _ hp)).sub big, ⟨Nat.zero_le 1, T.wA⟩, by show max 0 A.ht + 1 ≤ 10; omega, icp_0 T.nA⟩
    | 3, hu =>
      cases hu
      exact ⟨T4, v6, false, twoT .minus (twoT .plus A B) (.nu 1), rfl, .tail _ (.head _), r6.sub big, two_wf (two_wf T.wA T.wB) (Nat.le_refl 1), by show max (max (A.ht + 1) (B.ht + 1) + 1 + 1) (0 + 1) + 1 ≤ 10; omega, icp_1⟩
    | i + 4, hu => simp at hu
  generalize hNB : (LL, lst [.ref T1, .ref T2, .ref T3, .ref T4] 0) :: (T4, tup [v6, .bool false]) :: N6 = NB at items oB
  have hLm : (LL, lst [.ref T1, .ref T2, .ref T3, .ref T4] 0) ∈ NB := hNB ▸ .head _
  refine ⟨LL, [.ref T1, .ref T2, .ref T3, .ref T4], 0, rfl, fun i m' N0 => ∃ N' co' x o10 o11 o12, m' = lk [s "script", s "a", s "b", s "c", s "summed_sides", s "height_of_it", s "crossed_often", s "lap", s "inner", s "many", s "side", s "free", s "told"] [some (.ref l), some va, some vb, some vc, some vS, o5, o6, o7, o8, o9, o10, o11, o12] ∧ N0 = N' ++ [(ca, co')] ∧ co'.data = .cell x ∧ Off N' [(ca, co')] ∧ Sub NB N',
    ⟨NB, co, none, none, none, none, rfl, by rw [← hNB]; rfl, hco, oB, Sub.refl _⟩, ?_, ?_, ?_⟩
  · rintro i m' N0 ⟨N', co', x, o10, o11, o12, rfl, rfl, hx, hof, sN⟩
    exact List.mem_append_left _ (sN _ hLm)
  · rintro i u m' N0 hu ⟨N', co', x, o10, o11, o12, rfl, rfl, hx, hof, sN⟩
    obtain ⟨t, a, fr, X, rfl, hta, hR, hwX, htX, hicp⟩ := items i u hu
    have hR := hR.sub sN
    refine ⟨t, a, .bool fr, rfl, List.mem_append_left _ (sN _ hta), ?_⟩
    walk_at "W"
    rename_i tk6 L6 hL6
    refine sat_frame (N := (L6, lst [a] 0) :: N') (off_new hof hL6) (c_call_of hc rfl (by omega) (.head _) (by simp) fun v7 N7 s7 hv7 o7' => ?_)
    have sb7 : Sub N' N7 := fun p hp => s7 p (.tail _ hp)
    have hR7 := hR.sub sb7
    walk_at "W"
    refine sat_frame o7' (c_expand (t := X) hc rfl (by omega) hv7 hR7 hwX fun tv N8 s8 hT8 o8' => ?_)
    walk_at "W"
    refine sat_frame o8' (c_formula_of hc rfl (by omega) hT8 (fac_ok hwX) fun v9 a9 N9 s9 hv9 hR9 o9' => ?_)
    have hbk := back_wf hwX
    walk_at "W"
    refine sat_frame o9' (c_expand (t := back X) hc rfl (by omega) hv9 hR9 hbk.1 fun tw N10 s10 hT10 o10' => ?_)
    refine sat_stC (a := ca) (v₀ := x) GG (cell_law fa cd) (by rw [H.cl]; rfl) o10' hx fun co2 hco2 => ?_
    have o11' : Off N10 [(ca, co2)] := off_one (off_of o10')
    have sA : Sub N10 (N10 ++ [(ca, co2)]) := fun p hp => List.mem_append_left _ hp
    have hTw : TermsAt (N10 ++ [(ca, co2)]) tw _ _ _ := hT10.sub sA
    have hTv : TermsAt (N10 ++ [(ca, co2)]) tv _ _ _ := hT8.sub (s9.trans (s10.trans sA))
    have hcm : (ca, co2) ∈ N10 ++ [(ca, co2)] := List.mem_append_right _ (.head _)
    walk_at "W"
    refine g_T_icp hc hTv ?_
    rw [hicp]
    walk_at "W"
    refine sat_ldC GG (cell_law fa cd) (by rw [H.cl]; rfl) hcm hco2 ?_
    refine g_T_icp hc hTw ?_
    rw [back_icp hwX, hicp]
    walk_at "W"
    refine rows_comp hc GG (cell_law fa cd) (by rw [H.cl]; rfl) hcm hco2 hTw (fit_of hbk.1) (compOk_of (by decide +kernel)) (compOk_of (by decide +kernel)) ?c1 ?c2 ?c3 ?c4 (by decide +kernel) fun D1 vs1 k1 N11 s11 hD1 hR1 => ?_
    case c1 => unfold Fx.env; rw [H.cl]; kernel_rfl
    case c2 => intro C; unfold Fx.env; rw [H.cl]; kernel_rfl
    case c3 => intro C; kernel_rfl
    case c4 => intro C C'; kernel_rfl
    walk_at "W"
    have hR11 : Rep N11 a X := hR7.sub (s8.trans (s9.trans (s10.trans (sA.trans s11))))
    refine c_row (t := X) hc rfl (by omega) hR11 hwX fun D2 vs2 k2 N12 s12 hD2 hR2 => ?_
    refine p_neRows (s12 _ hD1) hD2 (hR1.sub s12) hR2 (by omega) ?_
    have heq : rowS (back X) = rowS X := chk9 hwX
    have heq' : (((byDeg (ev (back X) st0).1).map mems).map (facRow (ev (back X) st0).2.vars)) = rowS X := heq
    rw [heq', decide_eq_true (rfl : rowS X = rowS X)]
    refine ⟨_, rfl, br_f (by decide) ?_⟩
    have sub12 : Sub NB N12 := sN.trans (sb7.trans (s8.trans (s9.trans (s10.trans (sA.trans (s11.trans s12))))))
    have hcm12 : (ca, co2) ∈ N12 := s12 _ (s11 _ hcm)
    refine sat_weak (N₁ := N12.filter (fun p => decide (p.1 ≠ ca)) ++ [(ca, co2)]) (fun p hp => by
      rcases List.mem_append.mp hp with hp | hp
      · exact (List.mem_filter.mp hp).1
      · rcases List.mem_cons.mp hp with rfl | hp
        · exact hcm12
        · cases hp) ?_
    walk_at "W"
    refine ⟨_, co2, _, _, _, _, rfl, rfl, hco2, off_one fun p hp => ?_, fun p hp => List.mem_filter.mpr ⟨sub12 p hp, ?_⟩⟩
    · exact of_decide_eq_true (List.mem_filter.mp hp).2
    · exact decide_eq_true (off_of oB p hp)
  · rintro m' N0 ⟨N', co', x, o10, o11, o12, rfl, rfl, hx, hof, sN⟩
    walk_at "W"
    rfl
end
section
variable {w : World} {c : Fx} {f : Fn} {m : Loc} {N : Led}
set_option maxHeartbeats 8000000 in
theorem law_16 {fa : Addr} {cd : Value} {l : Addr} {ca : Addr} {co : Obj} {va vb vc vS : Value} {A B C : Tr} {o5 o6 o7 o8 o9 : Option Value} (H : LC w c ca) (L : LF N va vb vc vS A B C) (T : LT A B C) (hco : co.data = .cell none) (o0 : Off N [(ca, co)]) :
    Sat w c (fn_law fa cd) (execs (bd_law.drop 16) (c.env (fn_law fa cd))) (lk [s "script", s "a", s "b", s "c", s "summed_sides", s "height_of_it", s "crossed_often", s "lap", s "inner", s "many", s "side", s "free", s "told"] [some (.ref l), some va, some vb, some vc, some vS, o5, o6, o7, o8, o9, none, none, none]) (N ++ [(ca, co)]) fun fl _ _ => fl = .ret (.bool true) := by
  have GG := G_law fa cd
  have rl := rlim
  have hc := H.ok
  have hd := H.room
  have hu := H.un
  have cl := clim
  have tA := T.tA
  have tB := T.tB
  have tC := T.tC
  refine sat_cons ?_
  walk_at "W"
  refine sat_frame o0 (c_two (o := .plus) hc rfl (by omega) rfl L.a L.a fun v1 N1 s1 r1 o1 => ?_)
  have w1 := two_wf (o := .plus) T.wA T.wA
  walk_at "W"
  refine sat_frame o1 (c_row (t := twoT .plus A A) hc rfl (by simp only [twoT, Tr.ht]; omega) r1 w1 fun D1 vs1 k1 N2 s2 hD1 hR1 o2 => ?_)
  walk_at "W"
  have L2 := L.sub (s1.trans s2)
  refine sat_frame o2 (c_row (t := A) hc rfl (by omega) L2.a T.wA fun D2 vs2 k2 N3 s3 hD2 hR2 o3 => ?_)
  have e3 : Sub N3 (N3 ++ [(ca, co)]) := fun p hp => List.mem_append_left _ hp
  refine p_neRows (e3 _ (s3 _ hD1)) (e3 _ hD2) (hR1.sub (s3.trans e3)) (hR2.sub e3) (by omega) ?_
  rw [chk8a T.wA, decide_eq_true (rfl : rowS A = rowS A)]
  refine ⟨_, rfl, br_f (by decide) ?_⟩
  walk_at "W"
  have L3 := L2.sub s3
  refine sat_frame o3 (c_two (o := .minus) hc rfl (by omega) rfl L3.a L3.a fun v4 N4 s4 r4 o4 => ?_)
  walk_at "W"
  refine sat_frame o4 (c_row (t := twoT .minus A A) hc rfl (by simp only [twoT, Tr.ht]; omega) r4 (two_wf T.wA T.wA) fun D5 vs5 k5 N5 s5 hD5 hR5 o5' => ?_)
  walk_at "W"
  rename_i LE hLE
  refine p_neRows (.tail _ (List.mem_append_left _ hD5)) (.head _) (hR5.sub fun p hp => .tail _ (List.mem_append_left _ hp)) .nil (by omega) ?_
  rw [chk8b T.wA, decide_eq_true (rfl : ([] : List (List Str)) = [])]
  refine ⟨_, rfl, br_f (by decide) (sat_t_or0 (br_ff (sat_nil ?_)))⟩
  exact law_17 (N := (LE, lst [] 0) :: N5) H ((L3.sub (s4.trans s5)).sub (Sub.refl _).one) T hco (off_new o5' hLE)
set_option maxHeartbeats 8000000 in
theorem law_15 {fa : Addr} {cd : Value} {l : Addr} {ca : Addr} {co : Obj} {va vb vc vS : Value} {A B C : Tr} {o5 o6 o7 o8 o9 : Option Value} (H : LC w c ca) (L : LF N va vb vc vS A B C) (T : LT A B C) (hco : co.data = .cell none) (o0 : Off N [(ca, co)]) :
    Sat w c (fn_law fa cd) (execs (bd_law.drop 15) (c.env (fn_law fa cd))) (lk [s "script", s "a", s "b", s "c", s "summed_sides", s "height_of_it", s "crossed_often", s "lap", s "inner", s "many", s "side", s "free", s "told"] [some (.ref l), some va, some vb, some vc, some vS, o5, o6, o7, o8, o9, none, none, none]) (N ++ [(ca, co)]) fun fl _ _ => fl = .ret (.bool true) := by
  have GG := G_law fa cd
  have rl := rlim
  have hc := H.ok
  have hd := H.room
  have hu := H.un
  have cl := clim
  have tA := T.tA
  have tB := T.tB
  have tC := T.tC
  refine sat_cons ?_
  walk_at "W"
  refine sat_frame o0 (c_row (t := A) hc rfl (by omega) L.a T.wA fun D1 vs1 k1 N1 s1 hD1 hR1 o1 => ?_)
  have hlen : vs1.length = (sem A).length := by rw [hR1.len, rowS_len T.wA]
  have hl16 := (sem_ok A T.wA).len
  walk_at "W"
  refine p_len (List.mem_append_left _ hD1) (by omega) fun t1 => ?_
  rw [hlen]
  have L1 := L.sub s1
  walk_at "W"
  by_cases h1 : (sem A).length = 1
  · refine br_t (by rw [h1]; rfl) ?_
    walk_at "W"
    refine sat_frame o1 (c_two (o := .slash) hc rfl (by omega) rfl L1.a L1.b fun v2 N2 s2 r2 o2 => ?_)
    have L2 := L1.sub s2
    walk_at "W"
    refine sat_frame o2 (c_two (o := .colon) hc rfl (by omega) rfl L2.a L2.b fun v3 N3 s3 r3 o3 => ?_)
    have L3 := L2.sub s3
    walk_at "W"
    refine sat_frame o3 (c_two (o := .plus) hc rfl (by omega) rfl L3.a r3 fun v4 N4 s4 r4 o4 => ?_)
    have L4 := L3.sub s4
    walk_at "W"
    refine sat_frame o4 (c_lsame (t := twoT .slash A B) (u := twoT .plus A (twoT .colon A B)) hc rfl (by simp only [twoT, Tr.ht]; omega) (by omega) (r2.sub (s3.trans s4)) r4 (two_wf T.wA T.wB) (two_wf T.wA (two_wf T.wA T.wB)) (rowS_perm (two_wf T.wA T.wB) (two_wf T.wA (two_wf T.wA T.wB)) (chk7a B h1)) fun N5 s5 o5' => ?_)
    have L5 := L4.sub s5
    walk_at "W"
    refine sat_frame o5' (c_two (o := .inn) hc rfl (by omega) rfl L5.b L5.a fun v6 N6 s6 r6 o6' => ?_)
    have L6 := L5.sub s6
    walk_at "W"
    refine sat_frame o6' (c_two (o := .colon) hc rfl (by omega) rfl L6.b L6.a fun v7 N7 s7 r7 o7' => ?_)
    have L7 := L6.sub s7
    walk_at "W"
    refine sat_frame o7' (c_lsame (t := twoT .inn B A) (u := twoT .colon B A) hc rfl (by simp only [twoT, Tr.ht]; omega) (by omega) (r6.sub s7) r7 (two_wf T.wB T.wA) (two_wf T.wB T.wA) (rowS_perm (two_wf T.wB T.wA) (two_wf T.wB T.wA) (chk7b B h1)) fun N8 s8 o8' => ?_)
    refine sat_truthy_bool (br_f (by decide) (sat_nil (sat_nil ?_)))
    exact law_16 H (L7.sub s8) T hco o8'
  · refine br_f (by simp; omega) (sat_nil ?_)
    exact law_16 H L1 T hco o1
set_option maxHeartbeats 8000000 in
theorem law_13 {fa : Addr} {cd : Value} {l : Addr} {ca : Addr} {co : Obj} {va vb vc vS : Value} {A B C : Tr} {vi : Value} {o5 o6 o7 : Option Value} (H : LC w c ca) (L : LF N va vb vc vS A B C) (T : LT A B C) (hco : co.data = .cell none) (o0 : Off N [(ca, co)]) (Ri : Rep N vi (.par (twoT .plus A B))) :
    Sat w c (fn_law fa cd) (execs (bd_law.drop 13) (c.env (fn_law fa cd))) (lk [s "script", s "a", s "b", s "c", s "summed_sides", s "height_of_it", s "crossed_often", s "lap", s "inner", s "many", s "side", s "free", s "told"] [some (.ref l), some va, some vb, some vc, some vS, o5, o6, o7, some vi, none, none, none, none]) (N ++ [(ca, co)]) fun fl _ _ => fl = .ret (.bool true) := by
  have GG := G_law fa cd
  have rl := rlim
  have hc := H.ok
  have hd := H.room
  have hu := H.un
  have cl := clim
  have tA := T.tA
  have tB := T.tB
  have tC := T.tC
  have wS := two_wf (o := .plus) T.wA T.wB
  refine sat_cons ?_
  walk_at "W"
  refine sat_frame o0 (c_row (t := twoT .plus A B) hc rfl (by simp only [twoT, Tr.ht]; omega) L.s wS fun D1 vs1 k1 N1 s1 hD1 hR1 o1 => ?_)
  have hl16 := (sem_ok _ wS).len
  have hlen : vs1.length = (sem (twoT .plus A B)).length := by rw [hR1.len, rowS_len wS]
  have hpos : 1 ≤ (sem (twoT .plus A B)).length := by
    obtain ⟨x, hx⟩ := T.eA
    exact List.length_pos_of_mem (mem_uni.mpr (.inl hx) : x ∈ uni (sem A) (sem B))
  walk_at "W"
  refine p_len (List.mem_append_left _ hD1) (by omega) fun t1 => ?_
  rw [hlen]
  have c6 := chk6 wS
  generalize (sem (twoT .plus A B)).length = n at *
  have L1 := L.sub s1
  have Ri1 := Ri.sub s1
  walk_at "W"
  refine sat_frame o1 (c_number hc rfl (by omega) fun v2 N2 s2 hv2 o2 => ?_)
  walk_at "W"
  rename_i L3 hL3
  refine sat_frame (N := (L3, lst [vi, v2] 0) :: N2) (off_new o2 hL3) (c_call_of hc rfl (by omega) (.head _) (by simp) fun v4 N4 s4 hv4 o4 => ?_)
  have q24 : Sub N2 N4 := fun p hp => s4 p (.tail _ hp)
  have r4 : Rep N4 v4 (.pw (.par (twoT .plus A B)) n) := ⟨vi, v2, hv4, Ri1.sub (s2.trans q24), hv2.sub q24⟩
  have L4 := L1.sub (s2.trans q24)
  have Ri4 := Ri1.sub (s2.trans q24)
  walk_at "W"
  have e2 : ((n : Nat) : Int) + 2 = ((n + 2 : Nat) : Int) := by omega
  rw [e2]
  refine sat_frame o4 (c_number hc rfl (by omega) fun v5 N5 s5 hv5 o5' => ?_)
  walk_at "W"
  rename_i L6 hL6
  refine sat_frame (N := (L6, lst [vi, v5] 0) :: N5) (off_new o5' hL6) (c_call_of hc rfl (by omega) (.head _) (by simp) fun v7 N7 s7 hv7 o7' => ?_)
  have q57 : Sub N5 N7 := fun p hp => s7 p (.tail _ hp)
  have r7 : Rep N7 v7 (.pw (.par (twoT .plus A B)) (n + 2)) := ⟨vi, v5, hv7, Ri4.sub (s5.trans q57), hv5.sub q57⟩
  have L7 := L4.sub (s5.trans q57)
  walk_at "W"
  have wp1 : (Tr.pw (.par (twoT .plus A B)) n).wf := ⟨wS, by omega, by omega⟩
  have wp2 : (Tr.pw (.par (twoT .plus A B)) (n + 2)).wf := ⟨wS, by omega, by omega⟩
  refine sat_frame o7' (c_lsame hc rfl (by simp only [twoT, Tr.ht]; omega) (by omega) (r4.sub (s5.trans q57)) r7 wp1 wp2 (rowS_perm wp1 wp2 c6) fun N8 s8 o8' => ?_)
  refine sat_truthy_bool (br_f (by decide) (sat_nil ?_))
  exact law_15 H (L7.sub s8) T hco o8'
end
section
variable {w : World} {c : Fx} {f : Fn} {m : Loc} {N : Led}
set_option maxHeartbeats 8000000 in
theorem law_8 {fa : Addr} {cd : Value} {l : Addr} {ca : Addr} {co : Obj} {va vb vc vS : Value} {A B C : Tr} {ns : List Int} (H : LC w c ca) (L : LF N va vb vc vS A B C) (T : LT A B C) (hco : co.data = .cell none) (o0 : Off N [(ca, co)]) (hs : Scr c l ns) :
    Sat w c (fn_law fa cd) (execs (bd_law.drop 8) (c.env (fn_law fa cd))) (lk [s "script", s "a", s "b", s "c", s "summed_sides", s "height_of_it", s "crossed_often", s "lap", s "inner", s "many", s "side", s "free", s "told"] [some (.ref l), some va, some vb, some vc, some vS, none, none, none, none, none, none, none, none]) (N ++ [(ca, co)]) fun fl _ _ => fl = .ret (.bool true) := by
  have GG := G_law fa cd
  have rl := rlim
  have hc := H.ok
  have hd := H.room
  have hu := H.un
  have cl := clim
  have tA := T.tA
  have tB := T.tB
  have tC := T.tC
  have wS := two_wf (o := .plus) T.wA T.wB
  refine sat_cons ?_
  walk_at "W"
  refine c_figure (a := 9) (n := 3) hc rfl (by omega) hs (by decide) fun k t1 hk => ?_
  walk_at "W"
  rename_i t2
  have e1 : (1 : Int) + ((k : Nat) : Int) = ((k + 1 : Nat) : Int) := by omega
  rw [e1]
  refine sat_forR ?_ (by intro _; rfl)
  walk_at "W"
  have e2 : ((k + 1 : Nat) : Int) - 1 = ((k : Nat) : Int) := by omega
  rw [e2]
  refine p_range fun r u1 u2 u3 hr => ?_
  refine ⟨r, k, u1, u2, u3, rfl, by omega, .head _, fun i m' N0 => ∃ N' vx lap, m' = lk [s "script", s "a", s "b", s "c", s "summed_sides", s "height_of_it", s "crossed_often", s "lap", s "inner", s "many", s "side", s "free", s "told"] [some (.ref l), some va, some vb, some vc, some vS, some (.int (k + 1 : Nat) t2), some vx, lap, none, none, none, none, none] ∧ N0 = N' ++ [(ca, co)] ∧ Off N' [(ca, co)] ∧ Sub N N' ∧ Rep N' vx (crT (twoT .plus A B) i),
    ⟨(r, rng k u1 u2 u3) :: N, vS, none, rfl, rfl, off_new o0 hr, (Sub.refl _).one, L.s.sub (Sub.refl _).one⟩, ?_, ?_⟩
  · rintro i ti m' N0 hi ⟨N', vx, lap, rfl, rfl, oN, sN, rX⟩
    walk_at "W"
    refine sat_frame oN (c_two (o := .star) hc rfl (by omega) rfl rX (L.s.sub sN) fun v2 N2 s2 r2 o2 => ?_)
    walk_at "W"
    exact ⟨N2, v2, _, rfl, rfl, o2, sN.trans s2, r2⟩
  · rintro m' N0 ⟨N', vx, lap, rfl, rfl, oN, sN, rX⟩
    have L1 := L.sub sN
    walk_at "W"
    rename_i t3 L3 hL3
    refine sat_frame (N := (L3, lst [vS] 0) :: N') (off_new oN hL3) (c_call_of hc rfl (by omega) (.head _) (by simp) fun v4 N4 s4 hv4 o4 => ?_)
    have q4 : Sub N' N4 := fun p hp => s4 p (.tail _ hp)
    have L4 := L1.sub q4
    have Ri : Rep N4 v4 (.par (twoT .plus A B)) := ⟨vS, hv4, L4.s⟩
    have rX4 := rX.sub q4
    walk_at "W"
    refine sat_frame o4 (c_number hc rfl (by omega) fun v5 N5 s5 hv5 o5' => ?_)
    walk_at "W"
    rename_i L6 hL6
    refine sat_frame (N := (L6, lst [v4, v5] 0) :: N5) (off_new o5' hL6) (c_call_of hc rfl (by omega) (.head _) (by simp) fun v7 N7 s7 hv7 o7' => ?_)
    have q57 : Sub N5 N7 := fun p hp => s7 p (.tail _ hp)
    have r7 : Rep N7 v7 (.pw (.par (twoT .plus A B)) (k + 1)) := ⟨v4, v5, hv7, Ri.sub (s5.trans q57), hv5.sub q57⟩
    have L7 := L4.sub (s5.trans q57)
    walk_at "W"
    have wp1 : (Tr.pw (.par (twoT .plus A B)) (k + 1)).wf := ⟨wS, by omega, by omega⟩
    have wp2 := crT_wf wS k
    have h5 := crT_ht (twoT .plus A B) k
    have c5 := chk5 (h := k + 1) wS (by omega)
    refine sat_frame o7' (c_lsame (u := crT (twoT .plus A B) k) hc rfl (by simp only [twoT, Tr.ht] at h5 ⊢; omega) (by omega) r7 (rX4.sub (s5.trans q57)) wp1 wp2 (rowS_perm wp1 wp2 c5) fun N8 s8 o8' => ?_)
    refine sat_truthy_bool (br_f (by decide) (sat_nil ?_))
    exact law_13 H (L7.sub s8) T hco o8' (Ri.sub (s5.trans (q57.trans s8)))
set_option maxHeartbeats 8000000 in
theorem law_0 {fa : Addr} {cd : Value} {l : Addr} {ns : List Int} {ca : Addr} {co : Obj} (H : LC w c ca) (hco : co.data = .cell none) (hs : Scr c l ns) (o0 : Off N [(ca, co)]) :
    Sat w c (fn_law fa cd) (execs bd_law (c.env (fn_law fa cd))) (lk [s "script", s "a", s "b", s "c", s "summed_sides", s "height_of_it", s "crossed_often", s "lap", s "inner", s "many", s "side", s "free", s "told"] [some (.ref l), none, none, none, none, none, none, none, none, none, none, none, none]) (N ++ [(ca, co)]) fun fl _ _ => fl = .ret (.bool true) := by
  have GG := G_law fa cd
  have rl := rlim
  have hc := H.ok
  have hd := H.room
  have hu := H.un
  have cl := clim
  refine sat_cons ?_
  walk_at "W"
  refine sat_frame o0 (c_side (a := 0) hc rfl (by omega) hs fun va N1 sha ia ja h1 h2 h3 s1 hRa o1 => ?_)
  generalize hA : sideT sha ia ja = A at hRa
  have wA : A.wf := hA ▸ side_wf h2 h3
  have nA : nn A := hA ▸ side_nn sha ia ja
  have tA : A.ht ≤ 2 := hA ▸ side_ht sha ia ja
  have eA : ∃ x, x ∈ sem A := hA ▸ side_ne sha ia ja
  walk_at "W"
  refine sat_frame o1 (c_side (a := 3) hc rfl (by omega) hs fun vb N2 shb ib jb h1 h2 h3 s2 hRb o2 => ?_)
  generalize hB : sideT shb ib jb = B at hRb
  have wB : B.wf := hB ▸ side_wf h2 h3
  have nB : nn B := hB ▸ side_nn shb ib jb
  have tB : B.ht ≤ 2 := hB ▸ side_ht shb ib jb
  walk_at "W"
  refine sat_frame o2 (c_side (a := 6) hc rfl (by omega) hs fun vc N3 shc ic jc h1 h2 h3 s3 hRc o3 => ?_)
  generalize hC : sideT shc ic jc = C at hRc
  have wC : C.wf := hC ▸ side_wf h2 h3
  have tC : C.ht ≤ 2 := hC ▸ side_ht shc ic jc
  have T : LT A B C := ⟨wA, wB, wC, nA, nB, tA, tB, tC, eA⟩
  have hRa3 := hRa.sub (s2.trans s3)
  have hRb3 := hRb.sub s3
  walk_at "W"
  refine sat_frame o3 (c_two (o := .plus) hc rfl (by omega) rfl hRa3 hRb3 fun vS N4 s4 r4 o4 => ?_)
  have L4 : LF N4 va vb vc vS A B C := ⟨hRa3.sub s4, hRb3.sub s4, hRc.sub s4, r4⟩
  have wS := two_wf (o := .plus) wA wB
  walk_at "W"
  refine sat_frame o4 (c_two (o := .colon) hc rfl (by omega) rfl L4.s L4.c fun v5 N5 s5 r5 oo5 => ?_)
  have L5 := L4.sub s5
  walk_at "W"
  refine sat_frame oo5 (c_two (o := .colon) hc rfl (by omega) rfl L5.a L5.c fun v6 N6 s6 r6 oo6 => ?_)
  have L6 := L5.sub s6
  have p_6 := r5.sub s6
  walk_at "W"
  refine sat_frame oo6 (c_two (o := .colon) hc rfl (by omega) rfl L6.b L6.c fun v7 N7 s7 r7 oo7 => ?_)
  have L7 := L6.sub s7
  have p_7 := p_6.sub s7
  have q_7 := r6.sub s7
  walk_at "W"
  refine sat_frame oo7 (c_two (o := .plus) hc rfl (by omega) rfl q_7 r7 fun v8 N8 s8 r8 oo8 => ?_)
  have L8 := L7.sub s8
  have p_8 := p_7.sub s8
  have q_8 := q_7.sub s8
  have r_8 := r7.sub s8
  walk_at "W"
  refine sat_frame oo8 (c_lsame (t := twoT .colon (twoT .plus A B) C) (u := twoT .plus (twoT .colon A C) (twoT .colon B C)) hc rfl (by simp only [twoT, Tr.ht]; omega) (by omega) p_8 r8 (two_wf wS wC) (two_wf (two_wf wA wC) (two_wf wB wC)) (rowS_perm (two_wf wS wC) (two_wf (two_wf wA wC) (two_wf wB wC)) (chk1 A B C)) fun N9 s9 oo9 => ?_)
  have L9 := L8.sub s9
  walk_at "W"
  refine sat_frame oo9 (c_two (o := .colon) hc rfl (by omega) rfl L9.c L9.s fun v10 N10 s10 r10 oo10 => ?_)
  have L10 := L9.sub s10
  walk_at "W"
  refine sat_frame oo10 (c_two (o := .colon) hc rfl (by omega) rfl L10.c L10.a fun v11 N11 s11 r11 oo11 => ?_)
  have L11 := L10.sub s11
  have p_11 := r10.sub s11
  walk_at "W"
  refine sat_frame oo11 (c_two (o := .colon) hc rfl (by omega) rfl L11.c L11.b fun v12 N12 s12 r12 oo12 => ?_)
  have L12 := L11.sub s12
  have p_12 := p_11.sub s12
  have q_12 := r11.sub s12
  walk_at "W"
  refine sat_frame oo12 (c_two (o := .plus) hc rfl (by omega) rfl q_12 r12 fun v13 N13 s13 r13 oo13 => ?_)
  have L13 := L12.sub s13
  have p_13 := p_12.sub s13
  have q_13 := q_12.sub s13
  have r_13 := r12.sub s13
  walk_at "W"
  refine sat_frame oo13 (c_lsame (t := twoT .colon C (twoT .plus A B)) (u := twoT .plus (twoT .colon C A) (twoT .colon C B)) hc rfl (by simp only [twoT, Tr.ht]; omega) (by omega) p_13 r13 (two_wf wC wS) (two_wf (two_wf wC wA) (two_wf wC wB)) (rowS_perm (two_wf wC wS) (two_wf (two_wf wC wA) (two_wf wC wB)) (chk2 A B C)) fun N14 s14 oo14 => ?_)
  have L14 := L13.sub s14
  walk_at "W"
  refine sat_frame oo14 (c_two (o := .star) hc rfl (by omega) rfl L14.a L14.b fun v15 N15 s15 r15 oo15 => ?_)
  have L15 := L14.sub s15
  walk_at "W"
  refine sat_frame oo15 (c_row (t := twoT .star A B) hc rfl (by simp only [twoT, Tr.ht]; omega) r15 (two_wf wA wB) fun D16 vs16 k16 N16 s16 hD16 hR16 oo16 => ?_)
  have L16 := L15.sub s16
  walk_at "W"
  refine sat_frame oo16 (c_two (o := .colon) hc rfl (by omega) rfl L16.a L16.b fun v17 N17 s17 r17 oo17 => ?_)
  have L17 := L16.sub s17
  walk_at "W"
  refine sat_frame oo17 (c_two (o := .plus) hc rfl (by omega) rfl L17.s r17 fun v18 N18 s18 r18 oo18 => ?_)
  have L18 := L17.sub s18
  have q_18 := r17.sub s18
  walk_at "W"
  refine sat_frame oo18 (c_row (t := twoT .plus (twoT .plus A B) (twoT .colon A B)) hc rfl (by simp only [twoT, Tr.ht]; omega) r18 (two_wf wS (two_wf wA wB)) fun D19 vs19 k19 N19 s19 hD19 hR19 oo19 => ?_)
  have L19 := L18.sub s19
  have e3 : Sub N19 (N19 ++ [(ca, co)]) := fun p hp => List.mem_append_left _ hp
  have e4 : Sub N16 (N19 ++ [(ca, co)]) := s17.trans (s18.trans (s19.trans e3))
  refine p_neRows (e4 _ hD16) (e3 _ hD19) (hR16.sub e4) (hR19.sub e3) (by omega) ?_
  rw [chk3 wA wB, decide_eq_true (rfl : rowS (twoT .plus (twoT .plus A B) (twoT .colon A B)) = _)]
  refine ⟨_, rfl, br_f (by decide) (sat_nil ?_)⟩
  walk_at "W"
  refine sat_frame oo19 (c_two (o := .plus) hc rfl (by omega) rfl L19.b L19.a fun v20 N20 s20 r20 oo20 => ?_)
  have L20 := L19.sub s20
  walk_at "W"
  refine sat_frame oo20 (c_lsame (t := twoT .plus A B) (u := twoT .plus B A) hc rfl (by simp only [twoT, Tr.ht]; omega) (by omega) L20.s r20 wS (two_wf wB wA) (rowS_perm wS (two_wf wB wA) (chk4a A B)) fun N21 s21 oo21 => ?_)
  have L21 := L20.sub s21
  walk_at "W"
  refine sat_frame oo21 (c_two (o := .colon) hc rfl (by omega) rfl L21.a L21.b fun v22 N22 s22 r22 oo22 => ?_)
  have L22 := L21.sub s22
  walk_at "W"
  refine sat_frame oo22 (c_two (o := .colon) hc rfl (by omega) rfl L22.b L22.a fun v23 N23 s23 r23 oo23 => ?_)
  have L23 := L22.sub s23
  have p_23 := r22.sub s23
  walk_at "W"
  refine sat_frame oo23 (c_lsame (t := twoT .colon A B) (u := twoT .colon B A) hc rfl (by simp only [twoT, Tr.ht]; omega) (by omega) p_23 r23 (two_wf wA wB) (two_wf wB wA) (rowS_perm (two_wf wA wB) (two_wf wB wA) (chk4b A B)) fun N24 s24 oo24 => ?_)
  have L24 := L23.sub s24
  refine sat_truthy_bool (br_f (by decide) (sat_t_or0 (br_ff (sat_nil ?_))))
  exact law_8 H L24 T hco oo24 hs
end
set_option maxHeartbeats 0
noncomputable def annV : Option Value := some (.ref 6)
noncomputable def den0 : Code → Sem Fin := PySem.W.Fast.tw11892475500146522536 PySem.W.Fast.tw14364793385576792824
theorem runQ (w : World) (os : OsState) :
    (runT (PySem.W.Fast.tw6613529449190102663 11 annV) (PySem.W.Fast.tw10156331382660048174 den0 P0 w) 4000 ⟨bootT w.params, 11, (boot_heap w.params).life, Array.mk [], boot_drawn, boot_toks, os⟩ (topStub P0)).map
        (fun r => ((staticsOk (PySem.W.Fast.tw5923862056798008813 P0.main.body) (boot_heap w.params) r.abs.heap && namesBound P0 r.abs.heap && gensDone r.abs && laidKept (boot_heap w.params) r.abs.heap),
          PySem.W.Fast.tw4187177175401517315 (QG P0) looseV (PySem.W.Fast.tw5923862056798008813 P0.main.body) (fun _ => true) true r.abs, KA.map r.abs.heap.get?)) =
      some (true, openGood (QG P0) looseV, (KG P0 w.params).map fun p => some p.2) := by
  kernel_rfl
theorem runP (w : World) (os : OsState) :
    (runT (stepOk 11 annV) (stepT (denote treeTable) P0 w) 4000 ⟨bootT w.params, 11, (boot_heap w.params).life, Array.mk [], boot_drawn, boot_toks, os⟩ (topStub P0)).map
        (fun r => ((staticsOk (importedModules P0.main.body) (boot_heap w.params) r.abs.heap && namesBound P0 r.abs.heap && gensDone r.abs && laidKept (boot_heap w.params) r.abs.heap),
          openSeen (QG P0) looseV (importedModules P0.main.body) (fun _ => true) true r.abs, KA.map r.abs.heap.get?)) =
      some (true, openGood (QG P0) looseV, (KG P0 w.params).map fun p => some p.2) := by
  have h := runQ w os
  unfold den0 at h
  rw [← PySem.W.Fast.te6613529449190102663, ← PySem.W.Fast.te10156331382660048174, ← PySem.W.Fast.te11892475500146522536, ← PySem.W.Fast.te14364793385576792824, ← PySem.W.Fast.te5923862056798008813, ← PySem.W.Fast.te4187177175401517315] at h
  exact h

noncomputable def hookK : Hook := kHook KF KA (fun _ => by kernel_rfl)

theorem leftP : LeftO P0 (QG P0) looseV (fun _ => true) hookK.obs hookK.val 4000 true := by
  refine left_of_T (m₀ := 11) (ann := annV) ?_ ?_ ?_
  · refine boot_open ?_ (by decide) ?_
    · kernel_rfl
    · intro s
      kernel_rfl
  · intro w
    kernel_rfl
  · exact runP

theorem wsaid : PySem.Challenge.rw_ov0071_01.wellSaid = true := by
  unfold OpenLaw.wellSaid OpenRow.wellSaid OpenRow.partSaid looksOpen
  repeat' (with_reducible refine look_both ?_ ?_)
  all_goals decide +kernel

theorem head (call : WalkO (QG P0) looseV (fun _ _ => True) hookK.says RW0.row.toRowW lawD [] fun f vs => PySem.call f vs) : PySem.Challenge.rw_ov0071_01.Holds := by
  w_on
  refine holds_law wsaid fun said => ?_
  refine holds_open (q := QG P0) (loose := looseV) (Xt := fun _ => true) (XP := fun _ _ => True) (Yf := hookK.obs) (Ya := hookK.val) (YP := hookK.says) (N := 4000) (d := lawD) (kwd := []) ?hl hookK.of hookK.keeps (fun _ _ => trivial) (fun _ _ _ _ _ => trivial) ?h1 ?h2 ?h3 ?h4 ?h5 ?h6 ?h7 ?h8 ?hw call
  case hl => exact leftP
  case h1 => kernel_rfl
  case h2 => kernel_rfl
  case h3 => kernel_rfl
  case h4 => exact fun s _ => recFacts_of (R := PySem.Challenge.rw_ov0071_01.row.records) (show recOk PySem.Challenge.rw_ov0071_01.row.records s = true from rfl)
  case h5 => kernel_rfl
  case h6 => assumption
  case h7 => kernel_rfl
  case h8 => exact ⟨rfl, rfl, rfl, rfl, rfl, by decide +kernel⟩
  case hw => w_witness2
set_option maxHeartbeats 8000000
theorem law_call {w : World} {σ : Shared} {mg mb : Str → Option Value} {fa l : Addr} {o : Obj} {pm cd doc : Value} {vs : List Value} {ns : List Int} (KX : (KF w.params).In σ.heap) (T : TopRead (QG P0) looseV mg mb σ.heap)
    (ho : σ.heap.get? fa = some o) (hd : o.data = .func (docDef lawD.name lawD.params lawD.body lawD.scope pm cd doc)) (hcd : σ.heap.CodeRec cd lawD.name) (hl : σ.heap.IsList l vs.toArray) (hi : IntsAre vs ns) (hz : ns.length ≤ 63) {R : Result → Shared → Prop}
    (hR : ∀ h' tk (m : Loc), Fr σ.heap σ.heap.objs.size h' m → R (.ok (.ret (.bool true))) { σ with heap := h', toks := tk }) : codeAny (model P0 w) callerA (.call (.ref fa) ⟨[.ref l], []⟩) R σ := by
  have hcf : ∀ n, cellsFrom n lawD.scope.names [] = [(s "again", n)] := fun n => by kernel_rfl
  have hloc : lawD.scope.names.lookup (s "script") = some .local := by kernel_rfl
  have loc : ∀ x ∈ [(s "script", Value.ref l)], lawD.scope.names.lookup x.1 = some .local := fun x hx => by
    have : x = (s "script", .ref l) := by simpa using hx
    rw [this]; exact hloc
  refine call_cellsN (binds := [(s "script", .ref l)]) (by decide +kernel) ho hd T.nolimit hcd (by kernel_rfl) (fun x hx => .inl (loc x hx)) (by rw [hcf]; simp) (fun h₁ tk cells F N X => ?_) (by kernel_rfl) (by kernel_rfl) (by kernel_rfl)
  rw [hcf] at X
  obtain ⟨co, rfl, hco⟩ := X.one
  have e1 : bindL (envOfC lawD.name lawD.scope σ.heap.objs.size fa cd).kindOf [(s "script", Value.ref l)] (fun _ => none) =
      lk [s "script", s "a", s "b", s "c", s "summed_sides", s "height_of_it", s "crossed_often", s "lap", s "inner", s "many", s "side", s "free", s "told"] [some (.ref l), none, none, none, none, none, none, none, none, none, none, none, none] := by
    show bindL (fun y => lawD.scope.names.lookup y) _ _ = _
    rw [bindL_loc _ _ loc]
    simp only [Option.or_none]
    exact lk_binds 1 [s "script", s "a", s "b", s "c", s "summed_sides", s "height_of_it", s "crossed_often", s "lap", s "inner", s "many", s "side", s "free", s "told"] [.ref l] (G_law fa cd).nd rfl (by decide)
  have e2 : co.data = .cell none := by
    rw [hco]
    show Data.cell (bindC (fun y => lawD.scope.names.lookup y) _ _ _) = _
    rw [bindC_loc _ _ loc]
  have e3 : envOfC lawD.name lawD.scope σ.heap.objs.size fa cd = (⟨callerA.depth + 1, callerA.units + 3, callerA.guards, [], callerA, σ.heap, σ.heap, σ.heap.objs.size, [(s "again", σ.heap.objs.size + 1)]⟩ : Fx).env (fn_law fa cd) := by
    show envX (s "law") lawD.scope σ.heap.objs.size fa cd (cellsFrom (σ.heap.objs.size + 1) lawD.scope.names []) = envX (s "law") lawD.scope σ.heap.objs.size fa cd [(s "again", σ.heap.objs.size + 1)]
    rw [hcf]
  rw [e1] at F
  rw [e3]
  have H : LC w ⟨callerA.depth + 1, callerA.units + 3, callerA.guards, [], callerA, σ.heap, σ.heap, σ.heap.objs.size, [(s "again", σ.heap.objs.size + 1)]⟩ (σ.heap.objs.size + 1) := ⟨⟨below_caller σ.heap, KX, mg, mb, T⟩, (by decide : callerA.depth + 1 < 400), (by decide : callerA.units + 3 < 100), rfl⟩
  have walk := law_0 (N := []) (fa := fa) (cd := cd) (l := l) (ns := ns) H e2 ⟨⟨vs, hl, hi⟩, by omega⟩ (fun _ h => nomatch h)
  refine wpAny_mono (walk { σ with heap := h₁, toks := tk } [] (fun fl s' => R (.ok (.ret (match fl with | .ret v => v | _ => .none))) s') F (by simpa using N) (fun _ _ _ h => nomatch h) fun fl m' N' h' tk' q F' _ _ => ?_) (fun _ _ x => x) fun _ _ x => x.elim
  subst q
  exact hR h' tk' m' F'
theorem holds0 : PySem.Challenge.rw_ov0071_01.Holds := by
  refine head ?_
  intro w s₀ s₁ mg mb G Y fa o pm cd doc dV kV ho hd hcd hD hmg hg args vals as hpre hlay hrd hwl hlo
  have KX : (KF w.params).In s₁.heap := kIn_of Y
  have T := topRead_of G.T
  rw [loose_eq] at T
  have he := Dflts.none hD rfl
  subst he
  have he := Dflts.noKw hD
  subst he
  have hd' := fd_plain hd
  clear hmg
  wrow_args hpre hlay hrd hwl hlo
  all_goals (
    refine enter_call ?_
    refine codeAny_mono ?_ (fun _ _ g => GoodW.toG g)
    refine law_call KX T ho hd' hcd (by assumption) (by assumption) (by omega) fun h' tk m F => ?_
    exact goodW_reads F hg (fun _ => rfl) (.bool true) (fun _ => ⟨List.nodup_nil, (fun _ h => nomatch h)⟩) (by first | kernel_rfl | exact postW_of (by wrow_shape) (by wtm_val) (by str_meet; first | done | w_fin)) rfl)
end Mine
set_option maxHeartbeats 8000000 in
theorem PySem.Challenge.cw_ov0071_01_holds : PySem.Challenge.rw_ov0071_01.Holds := by
  exact Mine.holds0
