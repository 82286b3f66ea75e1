import PyProof.Rows.All
import Wide.All
import OpenK.AllK
import Wide.FinOn
import Lean
import PySem.Challenge.RW_nz0498_01
open PySem PySem.W PyProof.Rows PySem.Spec PySem.Calls
set_option Elab.async false
set_option compiler.extract_closed false
set_option linter.unusedVariables false
set_option maxRecDepth 100000
set_option maxHeartbeats 40000000
namespace Mine
-- the head: the top's run in three pieces, by the kernel alone; printed by head/gen_head.lean
abbrev hPG : Program := (OpenRow.toRowW (OpenLaw.row PySem.Challenge.rw_nz0498_01)).1
abbrev hq (s : String) : Str := Str.ofString s
noncomputable def hN : List Stmt → Nat → Stmt
  | [], _ => .Pass ⟨0, 0, 0, 0⟩
  | s :: _, 0 => s
  | _ :: r, n + 1 => hN r n
noncomputable def hP : Stmt → Arguments
  | .FunctionDef _ a _ _ _ _ _ _ _ _ => a
  | _ => ⟨[], [], none, [], [], none, []⟩
noncomputable def hB : Stmt → List Stmt
  | .FunctionDef _ _ b _ _ _ _ _ _ _ => b
  | _ => []
noncomputable def hS : Stmt → Scope
  | .FunctionDef _ _ _ _ _ _ s _ _ _ => s
  | _ => ⟨.function, [], false, false, []⟩
noncomputable def hC : Stmt → List Stmt × Scope
  | .ClassDef _ _ _ b _ _ s _ _ _ _ => (b, s)
  | _ => ([], ⟨.function, [], false, false, []⟩)
noncomputable def hAll : List Stmt := behindTheImports hPG
noncomputable def hT (i : Nat) : Stmt := hN hAll i
theorem hproof42 : (@Eq PySem.Program (@PySem.W.opening hPG) (@PySem.W.plainProg (@PySem.Scope.names (@PySem.Module.scope (@PySem.Program.main hPG))))) := by intros; kernel_rfl
theorem hproof43 : (∀ (x0 : PySem.Shared), (@Eq (@Option PySem.Shared) (@PySem.fenceModules? hPG x0) (some x0))) := by intros; kernel_rfl
theorem hproof697 : (∀ (x0 : PySem.World), (@Eq (@Prod Bool (@Prod Nat (@Option PySem.Value))) ((@Bool.and (@PySem.Heap.isNs (@PySem.W.boot_heap (@PySem.World.params x0)) PySem.mainGlobals) (@BEq.beq Nat (@instBEqOfDecidableEq Nat instDecidableEqNat) (@Array.size PySem.GenState (@Array.mk PySem.GenState [])) 0)), ((@Array.size PySem.Obj (@PySem.Heap.objs (@PySem.W.boot_heap (@PySem.World.params x0)))), (@PySem.Heap.nsMap (@PySem.W.boot_heap (@PySem.World.params x0)) PySem.mainGlobals (hq "__annotations__")))) (Bool.true, ((nat_lit 11), (some (.ref 6)))))) := by intros; kernel_rfl
noncomputable def ho47 : Params → Obj := (fun x0 => (.mk .none none (.dict #[(.mk (@PySem.PyData.keyHash x0 (hq "type.__subclasses__.Exception.0")) (.str (hq "type.__subclasses__.Exception.0") 242) (.int 55 0)), (.mk (@PySem.PyData.keyHash x0 (hq "type.__subclasses__.Exception.n")) (.str (hq "type.__subclasses__.Exception.n") 243) (.int 1 0))] 2) #[]))
noncomputable def ho457 : Params → Obj := (fun x0 => (.mk (.type "dict") none (.dict #[(.mk (@PySem.PyData.keyHash x0 (hq "__name__")) (.str (hq "__name__") 165) (.str (hq "law_nz0498_01") 932)), (.mk (@PySem.PyData.keyHash x0 (hq "__doc__")) (.str (hq "__doc__") 166) .none), (.mk (@PySem.PyData.keyHash x0 (hq "__package__")) (.str (hq "__package__") 167) .none), (.mk (@PySem.PyData.keyHash x0 (hq "__loader__")) (.str (hq "__loader__") 168) (.builtin "__main__.__loader__#opaque")), (.mk (@PySem.PyData.keyHash x0 (hq "__spec__")) (.str (hq "__spec__") 169) .none), (.mk (@PySem.PyData.keyHash x0 (hq "__annotations__")) (.str (hq "__annotations__") 170) (.ref 6)), (.mk (@PySem.PyData.keyHash x0 (hq "__builtins__")) (.str (hq "__builtins__") 171) (.ref 4)), (.mk (@PySem.PyData.keyHash x0 (hq "__file__")) (.str (hq "__file__") 173) (.str (hq "/claim/cut.py") 172)), (.mk (@PySem.PyData.keyHash x0 (hq "__cached__")) (.str (hq "__cached__") 174) .none), (.mk (@PySem.PyData.keyHash x0 (hq "_wall")) (.str (hq "_wall") 193) (.ref 21)), (.mk (@PySem.PyData.keyHash x0 (hq "get_attr")) (.str (hq "get_attr") 203) (.ref 28)), (.mk (@PySem.PyData.keyHash x0 (hq "names_of")) (.str (hq "names_of") 209) (.ref 33)), (.mk (@PySem.PyData.keyHash x0 (hq "dim_of")) (.str (hq "dim_of") 217) (.ref 40)), (.mk (@PySem.PyData.keyHash x0 (hq "dimnames_of")) (.str (hq "dimnames_of") 223) (.ref 45)), (.mk (@PySem.PyData.keyHash x0 (hq "CoveError")) (.str (hq "CoveError") 245) (.ref 55)), (.mk (@PySem.PyData.keyHash x0 (hq "Refusal")) (.str (hq "Refusal") 270) (.ref 75)), (.mk (@PySem.PyData.keyHash x0 (hq "NAN")) (.str (hq "NAN") 275) (.ref 78)), (.mk (@PySem.PyData.keyHash x0 (hq "INF")) (.str (hq "INF") 278) (.ref 79)), (.mk (@PySem.PyData.keyHash x0 (hq "ZERO")) (.str (hq "ZERO") 281) (.ref 80)), (.mk (@PySem.PyData.keyHash x0 (hq "gcd")) (.str (hq "gcd") 289) (.ref 87)), (.mk (@PySem.PyData.keyHash x0 (hq "make")) (.str (hq "make") 298) (.ref 94)), (.mk (@PySem.PyData.keyHash x0 (hq "from_int")) (.str (hq "from_int") 305) (.ref 101)), (.mk (@PySem.PyData.keyHash x0 (hq "is_na")) (.str (hq "is_na") 312) (.ref 108)), (.mk (@PySem.PyData.keyHash x0 (hq "is_finite")) (.str (hq "is_finite") 319) (.ref 115)), (.mk (@PySem.PyData.keyHash x0 (hq "neg")) (.str (hq "neg") 326) (.ref 122)), (.mk (@PySem.PyData.keyHash x0 (hq "to_whole")) (.str (hq "to_whole") 334) (.ref 129)), (.mk (@PySem.PyData.keyHash x0 (hq "nearest_whole")) (.str (hq "nearest_whole") 344) (.ref 136)), (.mk (@PySem.PyData.keyHash x0 (hq "exponent")) (.str (hq "exponent") 354) (.ref 143)), (.mk (@PySem.PyData.keyHash x0 (hq "MOST_EXPONENT")) (.str (hq "MOST_EXPONENT") 358) (.int 4096 357)), (.mk (@PySem.PyData.keyHash x0 (hq "whole_text")) (.str (hq "whole_text") 368) (.ref 150)), (.mk (@PySem.PyData.keyHash x0 (hq "special_text")) (.str (hq "special_text") 375) (.ref 157)), (.mk (@PySem.PyData.keyHash x0 (hq "scaled")) (.str (hq "scaled") 385) (.ref 164)), (.mk (@PySem.PyData.keyHash x0 (hq "significant")) (.str (hq "significant") 395) (.ref 171)), (.mk (@PySem.PyData.keyHash x0 (hq "without_tail")) (.str (hq "without_tail") 403) (.ref 178)), (.mk (@PySem.PyData.keyHash x0 (hq "scientific_text")) (.str (hq "scientific_text") 415) (.ref 185)), (.mk (@PySem.PyData.keyHash x0 (hq "fixed_text")) (.str (hq "fixed_text") 425) (.ref 192)), (.mk (@PySem.PyData.keyHash x0 (hq "measures")) (.str (hq "measures") 438) (.ref 199)), (.mk (@PySem.PyData.keyHash x0 (hq "chosen_form")) (.str (hq "chosen_form") 455) (.ref 206)), (.mk (@PySem.PyData.keyHash x0 (hq "formed")) (.str (hq "formed") 464) (.ref 213)), (.mk (@PySem.PyData.keyHash x0 (hq "common_texts")) (.str (hq "common_texts") 470) (.ref 218)), (.mk (@PySem.PyData.keyHash x0 (hq "number_text")) (.str (hq "number_text") 479) (.ref 226)), (.mk (@PySem.PyData.keyHash x0 (hq "digits_value")) (.str (hq "digits_value") 489) (.ref 233)), (.mk (@PySem.PyData.keyHash x0 (hq "digit_run")) (.str (hq "digit_run") 498) (.ref 240)), (.mk (@PySem.PyData.keyHash x0 (hq "exponent_value")) (.str (hq "exponent_value") 507) (.ref 247)), (.mk (@PySem.PyData.keyHash x0 (hq "powered")) (.str (hq "powered") 516) (.ref 254)), (.mk (@PySem.PyData.keyHash x0 (hq "unsigned_number")) (.str (hq "unsigned_number") 535) (.ref 261)), (.mk (@PySem.PyData.keyHash x0 (hq "parse_number")) (.str (hq "parse_number") 547) (.ref 268)), (.mk (@PySem.PyData.keyHash x0 (hq "Null")) (.str (hq "Null") 578) (.ref 285)), (.mk (@PySem.PyData.keyHash x0 (hq "Vector")) (.str (hq "Vector") 620) (.ref 314)), (.mk (@PySem.PyData.keyHash x0 (hq "Symbol")) (.str (hq "Symbol") 651) (.ref 335)), (.mk (@PySem.PyData.keyHash x0 (hq "Call")) (.str (hq "Call") 686) (.ref 357)), (.mk (@PySem.PyData.keyHash x0 (hq "Closure")) (.str (hq "Closure") 722) (.ref 379)), (.mk (@PySem.PyData.keyHash x0 (hq "Environment")) (.str (hq "Environment") 759) (.ref 401)), (.mk (@PySem.PyData.keyHash x0 (hq "character")) (.str (hq "character") 766) (.ref 412)), (.mk (@PySem.PyData.keyHash x0 (hq "length")) (.str (hq "length") 774) (.ref 419)), (.mk (@PySem.PyData.keyHash x0 (hq "is_atomic")) (.str (hq "is_atomic") 781) (.ref 426)), (.mk (@PySem.PyData.keyHash x0 (hq "share")) (.str (hq "share") 788) (.ref 433)), (.mk (@PySem.PyData.keyHash x0 (hq "MOST_INTEGER")) (.str (hq "MOST_INTEGER") 792) (.int 2147483647 791)), (.mk (@PySem.PyData.keyHash x0 (hq "note")) (.str (hq "note") 800) (.ref 440)), (.mk (@PySem.PyData.keyHash x0 (hq "as_logical_text")) (.str (hq "as_logical_text") 807) (.ref 447)), (.mk (@PySem.PyData.keyHash x0 (hq "double_to_integer")) (.str (hq "double_to_integer") 816) (.ref 454)), (.mk (@PySem.PyData.keyHash x0 (hq "text_to_double")) (.str (hq "text_to_double") 826) (.ref 461)), (.mk (@PySem.PyData.keyHash x0 (hq "to_logical")) (.str (hq "to_logical") 834) (.ref 468)), (.mk (@PySem.PyData.keyHash x0 (hq "to_integer")) (.str (hq "to_integer") 843) (.ref 475)), (.mk (@PySem.PyData.keyHash x0 (hq "to_double")) (.str (hq "to_double") 852) (.ref 482)), (.mk (@PySem.PyData.keyHash x0 (hq "to_text")) (.str (hq "to_text") 860) (.ref 489)), (.mk (@PySem.PyData.keyHash x0 (hq "item_as")) (.str (hq "item_as") 870) (.ref 496)), (.mk (@PySem.PyData.keyHash x0 (hq "is_atomic_kind")) (.str (hq "is_atomic_kind") 877) (.ref 503)), (.mk (@PySem.PyData.keyHash x0 (hq "list_item_as")) (.str (hq "list_item_as") 887) (.ref 510)), (.mk (@PySem.PyData.keyHash x0 (hq "refuse_type")) (.str (hq "refuse_type") 895) (.ref 517)), (.mk (@PySem.PyData.keyHash x0 (hq "as_vector_kind")) (.str (hq "as_vector_kind") 901) (.ref 522)), (.mk (@PySem.PyData.keyHash x0 (hq "with_names")) (.str (hq "with_names") 909) (.ref 529)), (.mk (@PySem.PyData.keyHash x0 (hq "as_kind")) (.str (hq "as_kind") 915) (.ref 534)), (.mk (@PySem.PyData.keyHash x0 (hq "as_list")) (.str (hq "as_list") 922) (.ref 541)), (.mk (@PySem.PyData.keyHash x0 (hq "condition")) (.str (hq "condition") 931) (.ref 548)), (.mk (@PySem.PyData.keyHash x0 (hq "_law_draws")) (.str (hq "_law_draws") 945) (.ref 555)), (.mk (@PySem.PyData.keyHash x0 (hq "_law_take")) (.str (hq "_law_take") 953) (.ref 562)), (.mk (@PySem.PyData.keyHash x0 (hq "_law_item")) (.str (hq "_law_item") 959) (.ref 567)), (.mk (@PySem.PyData.keyHash x0 (hq "_law_atomic")) (.str (hq "_law_atomic") 965) (.ref 572)), (.mk (@PySem.PyData.keyHash x0 (hq "_law_named")) (.str (hq "_law_named") 971) (.ref 577)), (.mk (@PySem.PyData.keyHash x0 (hq "_law_value")) (.str (hq "_law_value") 977) (.ref 582)), (.mk (@PySem.PyData.keyHash x0 (hq "_law_simple")) (.str (hq "_law_simple") 986) (.ref 589)), (.mk (@PySem.PyData.keyHash x0 (hq "_law_size")) (.str (hq "_law_size") 993) (.ref 596)), (.mk (@PySem.PyData.keyHash x0 (hq "_law_told")) (.str (hq "_law_told") 1002) (.ref 603)), (.mk (@PySem.PyData.keyHash x0 (hq "_law_alike")) (.str (hq "_law_alike") 1010) (.ref 610)), (.mk (@PySem.PyData.keyHash x0 (hq "_law_heads")) (.str (hq "_law_heads") 1016) (.ref 615)), (.mk (@PySem.PyData.keyHash x0 (hq "_law_listed")) (.str (hq "_law_listed") 1022) (.ref 620)), (.mk (@PySem.PyData.keyHash x0 (hq "_law_list_right")) (.str (hq "_law_list_right") 1033) (.ref 627)), (.mk (@PySem.PyData.keyHash x0 (hq "_law_made")) (.str (hq "_law_made") 1043) (.ref 634)), (.mk (@PySem.PyData.keyHash x0 (hq "_law_texts")) (.str (hq "_law_texts") 1052) (.ref 641)), (.mk (@PySem.PyData.keyHash x0 (hq "_law_kinds_right")) (.str (hq "_law_kinds_right") 1063) (.ref 648)), (.mk (@PySem.PyData.keyHash x0 (hq "law")) (.str (hq "law") 1076) (.ref 655))] 92) #[]))
noncomputable def ho43 : Params → Obj := (fun x0 => (.mk (.type "tuple") none (.seq #[] 0) #[]))
noncomputable def ho458 : Params → Obj := (fun x0 => (.mk .none none (.fields #[(.int 1 0), (.int 0 0), (.ref 20), (.int 5 0), (.int 0 0), (.ref 27), (.int 9 0), (.int 0 0), (.ref 32), (.int 25 0), (.int 0 0), (.ref 39), (.int 30 0), (.int 0 0), (.ref 44), (.int 36 0), (.int 0 0), (.ref 51), (.int 38 0), (.int 0 0), (.ref 64), (.int 46 0), (.int 0 0), (.ref 86), (.int 50 0), (.int 0 0), (.ref 93), (.int 60 0), (.int 0 0), (.ref 100), (.int 64 0), (.int 0 0), (.ref 107), (.int 66 0), (.int 0 0), (.ref 114), (.int 68 0), (.int 0 0), (.ref 121), (.int 72 0), (.int 0 0), (.ref 128), (.int 77 0), (.int 0 0), (.ref 135), (.int 83 0), (.int 0 0), (.ref 142), (.int 96 0), (.int 0 0), (.ref 149), (.int 107 0), (.int 0 0), (.ref 156), (.int 115 0), (.int 0 0), (.ref 163), (.int 120 0), (.int 0 0), (.ref 170), (.int 129 0), (.int 0 0), (.ref 177), (.int 134 0), (.int 0 0), (.ref 184), (.int 141 0), (.int 0 0), (.ref 191), (.int 149 0), (.int 0 0), (.ref 198), (.int 156 0), (.int 0 0), (.ref 205), (.int 176 0), (.int 0 0), (.ref 212), (.int 183 0), (.int 0 0), (.ref 217), (.int 187 0), (.int 0 0), (.ref 225), (.int 189 0), (.int 0 0), (.ref 232), (.int 194 0), (.int 0 0), (.ref 239), (.int 198 0), (.int 0 0), (.ref 246), (.int 208 0), (.int 0 0), (.ref 253), (.int 218 0), (.int 0 0), (.ref 260), (.int 250 0), (.int 0 0), (.ref 267), (.int 268 0), (.int 0 0), (.ref 274), (.int 273 0), (.int 0 0), (.ref 295), (.int 284 0), (.int 0 0), (.ref 324), (.int 290 0), (.int 0 0), (.ref 345), (.int 298 0), (.int 0 0), (.ref 367), (.int 306 0), (.int 0 0), (.ref 389), (.int 316 0), (.int 0 0), (.ref 411), (.int 318 0), (.int 0 0), (.ref 418), (.int 329 0), (.int 0 0), (.ref 425), (.int 331 0), (.int 0 0), (.ref 432), (.int 337 0), (.int 0 0), (.ref 439), (.int 340 0), (.int 0 0), (.ref 446), (.int 346 0), (.int 0 0), (.ref 453), (.int 354 0), (.int 0 0), (.ref 460), (.int 360 0), (.int 0 0), (.ref 467), (.int 370 0), (.int 0 0), (.ref 474), (.int 378 0), (.int 0 0), (.ref 481), (.int 384 0), (.int 0 0), (.ref 488), (.int 392 0), (.int 0 0), (.ref 495), (.int 406 0), (.int 0 0), (.ref 502), (.int 408 0), (.int 0 0), (.ref 509), (.int 414 0), (.int 0 0), (.ref 516), (.int 416 0), (.int 0 0), (.ref 521), (.int 430 0), (.int 0 0), (.ref 528), (.int 434 0), (.int 0 0), (.ref 533), (.int 441 0), (.int 0 0), (.ref 540), (.int 443 0), (.int 0 0), (.ref 547), (.int 458 0), (.int 0 0), (.ref 554), (.int 473 0), (.int 0 0), (.ref 561), (.int 479 0), (.int 0 0), (.ref 566), (.int 492 0), (.int 0 0), (.ref 571), (.int 495 0), (.int 0 0), (.ref 576), (.int 501 0), (.int 0 0), (.ref 581), (.int 519 0), (.int 0 0), (.ref 588), (.int 528 0), (.int 0 0), (.ref 595), (.int 536 0), (.int 0 0), (.ref 602), (.int 552 0), (.int 0 0), (.ref 609), (.int 564 0), (.int 0 0), (.ref 614), (.int 571 0), (.int 0 0), (.ref 619), (.int 579 0), (.int 0 0), (.ref 626), (.int 590 0), (.int 0 0), (.ref 633), (.int 596 0), (.int 0 0), (.ref 640), (.int 606 0), (.int 0 0), (.ref 647), (.int 628 0), (.int 0 0), (.ref 654)]) #[]))
noncomputable def ho45 : Params → Obj := (fun x0 => (.mk (.type "code") none (.fields #[(.str (hq "<module>") 182), (.str (hq "<module>") 183), (.str (hq "/claim/cut.py") 184), (.int 1 0), (.int 0 0), (.int 0 0), (.int 0 0), (.int 0 0), (.ref 11), (.bool Bool.false), (.int 181 0), (.ref 12), .none, .none, .none, .none, (.int 185 0), (.int 1 0), (.str (hq "/claim/cut.py") 186)]) #[]))
noncomputable def ho46 : Params → Obj := (fun x0 => (.mk (.type "frame") none PySem.Data.plain #[(some (.ref 13)), (some (.ref 3)), (some (.ref 3)), none, (some (.str (hq "__main__") 164)), none, (some (.ref 0))]))
noncomputable def ho50 : Params → Obj := (fun x0 => (.mk (.type "tuple") none (.seq #[] 0) #[]))
noncomputable def ho51 : Params → Obj := (fun x0 => (.mk .none none (.fields #[]) #[]))
noncomputable def ho52 : Params → Obj := (fun x0 => (.mk (.type "tuple") none (.seq #[(.str (hq "k") 190)] 0) #[]))
noncomputable def ho53 : Params → Obj := (fun x0 => (.mk (.type "tuple") none (.seq #[] 0) #[]))
noncomputable def ho54 : Params → Obj := (fun x0 => (.mk .none none (.func (.mk (hq "_wall") (hq "_wall") (hP (hT 0)) (.stmts (hB (hT 0))) (hS (hT 0)) 0 [] .none .none .none .none none .none .none 0)) #[]))
noncomputable def ho55 : Params → Obj := (fun x0 => (.mk (.type "code") none (.fields #[(.str (hq "_wall") 187), (.str (hq "_wall") 188), (.str (hq "/claim/cut.py") 189), (.int 1 0), (.int 1 0), (.int 0 0), (.int 0 0), (.int 3 0), (.ref 15), (.bool Bool.true), (.int 181 0), (.ref 16), .none, (.ref 17), (.ref 18), (.ref 19), (.int 191 0), (.int 1 0), (.str (hq "/claim/cut.py") 192)]) #[]))
noncomputable def ho56 : Params → Obj := (fun x0 => (.mk (.type "function") none (.func (.mk (hq "_wall") (hq "_wall") (hP (hT 0)) (.stmts (hB (hT 0))) (hS (hT 0)) 3 [] .none .none .none (.str (hq "__main__") 164) none (.ref 20) .none 0)) #[]))
noncomputable def ho57 : Params → Obj := (fun x0 => (.mk (.type "tuple") none (.seq #[] 0) #[]))
noncomputable def ho58 : Params → Obj := (fun x0 => (.mk .none none (.fields #[]) #[]))
noncomputable def ho59 : Params → Obj := (fun x0 => (.mk (.type "tuple") none (.seq #[(.str (hq "v") 199), (.str (hq "name") 200)] 0) #[]))
noncomputable def ho60 : Params → Obj := (fun x0 => (.mk (.type "tuple") none (.seq #[] 0) #[]))
noncomputable def ho61 : Params → Obj := (fun x0 => (.mk .none none (.func (.mk (hq "get_attr") (hq "get_attr") (hP (hT 2)) (.stmts (hB (hT 2))) (hS (hT 2)) 0 [] .none .none .none .none none .none .none 0)) #[]))
noncomputable def ho62 : Params → Obj := (fun x0 => (.mk (.type "code") none (.fields #[(.str (hq "get_attr") 196), (.str (hq "get_attr") 197), (.str (hq "/claim/cut.py") 198), (.int 5 0), (.int 2 0), (.int 0 0), (.int 0 0), (.int 3 0), (.ref 22), (.bool Bool.true), (.int 181 0), (.ref 23), .none, (.ref 24), (.ref 25), (.ref 26), (.int 201 0), (.int 5 0), (.str (hq "/claim/cut.py") 202)]) #[]))
noncomputable def ho63 : Params → Obj := (fun x0 => (.mk (.type "function") none (.func (.mk (hq "get_attr") (hq "get_attr") (hP (hT 2)) (.stmts (hB (hT 2))) (hS (hT 2)) 3 [] .none .none .none (.str (hq "vectorcove.attrs") 194) none (.ref 27) .none 0)) #[]))
noncomputable def ho64 : Params → Obj := (fun x0 => (.mk (.type "tuple") none (.seq #[] 0) #[]))
noncomputable def ho65 : Params → Obj := (fun x0 => (.mk .none none (.fields #[]) #[]))
noncomputable def ho66 : Params → Obj := (fun x0 => (.mk .none none (.func (.mk (hq "names_of") (hq "names_of") (hP (hT 3)) (.stmts (hB (hT 3))) (hS (hT 3)) 0 [] .none .none .none .none none .none .none 0)) #[]))
noncomputable def ho67 : Params → Obj := (fun x0 => (.mk (.type "code") none (.fields #[(.str (hq "names_of") 204), (.str (hq "names_of") 205), (.str (hq "/claim/cut.py") 206), (.int 9 0), (.int 1 0), (.int 0 0), (.int 0 0), (.int 3 0), (.ref 29), (.bool Bool.true), (.int 181 0), (.ref 30), .none, .none, .none, (.ref 31), (.int 207 0), (.int 9 0), (.str (hq "/claim/cut.py") 208)]) #[]))
noncomputable def ho68 : Params → Obj := (fun x0 => (.mk (.type "function") none (.func (.mk (hq "names_of") (hq "names_of") (hP (hT 3)) (.stmts (hB (hT 3))) (hS (hT 3)) 3 [] .none .none .none (.str (hq "vectorcove.attrs") 194) none (.ref 32) .none 0)) #[]))
noncomputable def ho69 : Params → Obj := (fun x0 => (.mk (.type "tuple") none (.seq #[] 0) #[]))
noncomputable def ho70 : Params → Obj := (fun x0 => (.mk .none none (.fields #[]) #[]))
noncomputable def ho71 : Params → Obj := (fun x0 => (.mk (.type "tuple") none (.seq #[(.str (hq "v") 213), (.str (hq "dims") 214)] 0) #[]))
noncomputable def ho72 : Params → Obj := (fun x0 => (.mk (.type "tuple") none (.seq #[] 0) #[]))
noncomputable def ho73 : Params → Obj := (fun x0 => (.mk .none none (.func (.mk (hq "dim_of") (hq "dim_of") (hP (hT 4)) (.stmts (hB (hT 4))) (hS (hT 4)) 0 [] .none .none .none .none none .none .none 0)) #[]))
noncomputable def ho74 : Params → Obj := (fun x0 => (.mk (.type "code") none (.fields #[(.str (hq "dim_of") 210), (.str (hq "dim_of") 211), (.str (hq "/claim/cut.py") 212), (.int 25 0), (.int 1 0), (.int 0 0), (.int 0 0), (.int 3 0), (.ref 34), (.bool Bool.true), (.int 181 0), (.ref 35), .none, (.ref 36), (.ref 37), (.ref 38), (.int 215 0), (.int 25 0), (.str (hq "/claim/cut.py") 216)]) #[]))
noncomputable def ho75 : Params → Obj := (fun x0 => (.mk (.type "function") none (.func (.mk (hq "dim_of") (hq "dim_of") (hP (hT 4)) (.stmts (hB (hT 4))) (hS (hT 4)) 3 [] .none .none .none (.str (hq "vectorcove.attrs") 194) none (.ref 39) .none 0)) #[]))
noncomputable def ho76 : Params → Obj := (fun x0 => (.mk (.type "tuple") none (.seq #[] 0) #[]))
noncomputable def ho77 : Params → Obj := (fun x0 => (.mk .none none (.fields #[]) #[]))
noncomputable def ho78 : Params → Obj := (fun x0 => (.mk .none none (.func (.mk (hq "dimnames_of") (hq "dimnames_of") (hP (hT 5)) (.stmts (hB (hT 5))) (hS (hT 5)) 0 [] .none .none .none .none none .none .none 0)) #[]))
noncomputable def ho79 : Params → Obj := (fun x0 => (.mk (.type "code") none (.fields #[(.str (hq "dimnames_of") 218), (.str (hq "dimnames_of") 219), (.str (hq "/claim/cut.py") 220), (.int 30 0), (.int 1 0), (.int 0 0), (.int 0 0), (.int 3 0), (.ref 41), (.bool Bool.true), (.int 181 0), (.ref 42), .none, .none, .none, (.ref 43), (.int 221 0), (.int 30 0), (.str (hq "/claim/cut.py") 222)]) #[]))
noncomputable def ho80 : Params → Obj := (fun x0 => (.mk (.type "function") none (.func (.mk (hq "dimnames_of") (hq "dimnames_of") (hP (hT 5)) (.stmts (hB (hT 5))) (hS (hT 5)) 3 [] .none .none .none (.str (hq "vectorcove.attrs") 194) none (.ref 44) .none 0)) #[]))
noncomputable def ho81 : Params → Obj := (fun x0 => (.mk (.type "tuple") none (.seq #[(.type "Exception")] 0) #[]))
noncomputable def ho82 : Params → Obj := (fun x0 => (.mk (.type "builtin_function_or_method") none (.fields #[(.builtin "type.__prepare__"), (.type "type")]) #[]))
noncomputable def ho83 : Params → Obj := (fun x0 => (.mk (.type "dict") none (.dict #[(.mk (@PySem.PyData.keyHash x0 (hq "__module__")) (.str (hq "__module__") 233) (.str (hq "vectorcove.errors") 224)), (.mk (@PySem.PyData.keyHash x0 (hq "__qualname__")) (.str (hq "__qualname__") 235) (.str (hq "CoveError") 234)), (.mk (@PySem.PyData.keyHash x0 (hq "__firstlineno__")) (.str (hq "__firstlineno__") 237) (.int 36 236)), (.mk (@PySem.PyData.keyHash x0 (hq "__static_attributes__")) (.str (hq "__static_attributes__") 238) (.ref 53))] 4) #[]))
noncomputable def ho84 : Params → Obj := (fun x0 => (.mk (.type "tuple") none (.seq #[] 0) #[]))
noncomputable def ho85 : Params → Obj := (fun x0 => (.mk .none none (.fields #[]) #[]))
noncomputable def ho86 : Params → Obj := (fun x0 => (.mk (.type "code") none (.fields #[(.str (hq "CoveError") 228), (.str (hq "CoveError") 229), (.str (hq "/claim/cut.py") 230), (.int 36 0), (.int 0 0), (.int 0 0), (.int 0 0), (.int 0 0), (.ref 49), (.bool Bool.false), (.int 181 0), (.ref 50), .none, .none, .none, .none, (.int 231 0), (.int 36 0), (.str (hq "/claim/cut.py") 232)]) #[]))
noncomputable def ho87 : Params → Obj := (fun x0 => (.mk (.type "frame") none PySem.Data.plain #[(some (.ref 51)), (some (.ref 3)), (some (.ref 48)), none, (some (.str (hq "vectorcove.errors") 224)), none, (some (.ref 0))]))
noncomputable def ho88 : Params → Obj := (fun x0 => (.mk (.type "tuple") none (.seq #[] 0) #[]))
noncomputable def ho89 : Params → Obj := (fun x0 => (.mk (.type "dict") none (.dict #[(.mk (@PySem.PyData.keyHash x0 (hq "__module__")) (.str (hq "__module__") 233) (.str (hq "vectorcove.errors") 224)), (.mk (@PySem.PyData.keyHash x0 (hq "__firstlineno__")) (.str (hq "__firstlineno__") 237) (.int 36 236)), (.mk (@PySem.PyData.keyHash x0 (hq "__static_attributes__")) (.str (hq "__static_attributes__") 238) (.ref 53)), (.mk (@PySem.PyData.keyHash x0 (hq "__weakref__")) (.str (hq "__weakref__") 240) (.ref 56)), (.mk (@PySem.PyData.keyHash x0 (hq "__doc__")) (.str (hq "__doc__") 241) .none)] 3) #[]))
noncomputable def ho90 : Params → Obj := (fun x0 => (.mk (.type "type") none (.cls (.mk (hq "CoveError") [(.type "Exception")] [(.ref 55), (.type "Exception"), (.type "BaseException"), (.type "object")] 54 (hq "CoveError") Bool.true [] [(.ref 75)] Bool.false none Bool.false)) #[(some (.ref 46)), none, (some (.str (hq "CoveError") 226)), (some (.str (hq "CoveError") 234)), (some (.builtin "Exception.__new__")), (some (.bool Bool.true))]))
noncomputable def ho91 : Params → Obj := (fun x0 => (.mk (.type "getset_descriptor") none (.fields #[(.str (hq "__weakref__") 239), (.ref 55), (.builtin "ExceptionGroup.__weakref__"), .none]) #[]))
noncomputable def ho92 : Params → Obj := (fun x0 => (.mk (.type "super") none (.fields #[(.ref 55), (.ref 55), (.ref 55)]) #[]))
noncomputable def ho93 : Params → Obj := (fun x0 => (.mk (.type "builtin_function_or_method") none (.fields #[(.builtin "object.__init_subclass__"), (.ref 55)]) #[]))
noncomputable def ho94 : Params → Obj := (fun x0 => (.mk (.type "tuple") none (.seq #[(.ref 55)] 0) #[]))
noncomputable def ho95 : Params → Obj := (fun x0 => (.mk (.type "builtin_function_or_method") none (.fields #[(.builtin "type.__prepare__"), (.type "type")]) #[]))
noncomputable def ho96 : Params → Obj := (fun x0 => (.mk (.type "dict") none (.dict #[(.mk (@PySem.PyData.keyHash x0 (hq "__module__")) (.str (hq "__module__") 253) (.str (hq "vectorcove.errors") 224)), (.mk (@PySem.PyData.keyHash x0 (hq "__qualname__")) (.str (hq "__qualname__") 255) (.str (hq "Refusal") 254)), (.mk (@PySem.PyData.keyHash x0 (hq "__firstlineno__")) (.str (hq "__firstlineno__") 257) (.int 38 256)), (.mk (@PySem.PyData.keyHash x0 (hq "__init__")) (.str (hq "__init__") 265) (.ref 72)), (.mk (@PySem.PyData.keyHash x0 (hq "__static_attributes__")) (.str (hq "__static_attributes__") 267) (.ref 73))] 5) #[]))
noncomputable def ho97 : Params → Obj := (fun x0 => (.mk (.type "tuple") none (.seq #[] 0) #[]))
noncomputable def ho98 : Params → Obj := (fun x0 => (.mk .none none (.fields #[(.int 40 0), (.int 4 0), (.ref 71)]) #[]))
noncomputable def ho99 : Params → Obj := (fun x0 => (.mk (.type "code") none (.fields #[(.str (hq "Refusal") 248), (.str (hq "Refusal") 249), (.str (hq "/claim/cut.py") 250), (.int 38 0), (.int 0 0), (.int 0 0), (.int 0 0), (.int 0 0), (.ref 62), (.bool Bool.false), (.int 181 0), (.ref 63), .none, .none, .none, .none, (.int 251 0), (.int 38 0), (.str (hq "/claim/cut.py") 252)]) #[]))
noncomputable def ho100 : Params → Obj := (fun x0 => (.mk (.type "frame") none PySem.Data.plain #[(some (.ref 64)), (some (.ref 3)), (some (.ref 61)), none, (some (.str (hq "vectorcove.errors") 224)), none, (some (.ref 0))]))
noncomputable def ho101 : Params → Obj := (fun x0 => (.mk (.type "tuple") none (.seq #[] 0) #[]))
noncomputable def ho102 : Params → Obj := (fun x0 => (.mk .none none (.fields #[]) #[]))
noncomputable def ho103 : Params → Obj := (fun x0 => (.mk (.type "tuple") none (.seq #[(.str (hq "self") 261), (.str (hq "message") 262)] 0) #[]))
noncomputable def ho104 : Params → Obj := (fun x0 => (.mk (.type "tuple") none (.seq #[] 0) #[]))
noncomputable def ho105 : Params → Obj := (fun x0 => (.mk .none none (.func (.mk (hq "__init__") (hq "Refusal.__init__") (hP (hN (hC (hT 8)).1 0)) (.stmts (hB (hN (hC (hT 8)).1 0))) (hS (hN (hC (hT 8)).1 0)) 0 [] .none .none .none .none none .none .none 0)) #[]))
noncomputable def ho106 : Params → Obj := (fun x0 => (.mk (.type "code") none (.fields #[(.str (hq "__init__") 258), (.str (hq "Refusal.__init__") 259), (.str (hq "/claim/cut.py") 260), (.int 40 0), (.int 2 0), (.int 0 0), (.int 0 0), (.int 3 0), (.ref 66), (.bool Bool.true), (.int 181 0), (.ref 67), .none, (.ref 68), (.ref 69), (.ref 70), (.int 263 0), (.int 40 0), (.str (hq "/claim/cut.py") 264)]) #[]))
noncomputable def ho107 : Params → Obj := (fun x0 => (.mk (.type "function") none (.func (.mk (hq "__init__") (hq "Refusal.__init__") (hP (hN (hC (hT 8)).1 0)) (.stmts (hB (hN (hC (hT 8)).1 0))) (hS (hN (hC (hT 8)).1 0)) 3 [] .none .none .none (.str (hq "vectorcove.errors") 224) none (.ref 71) .none 0)) #[]))
noncomputable def ho108 : Params → Obj := (fun x0 => (.mk (.type "tuple") none (.seq #[(.str (hq "message") 266)] 0) #[]))
noncomputable def ho109 : Params → Obj := (fun x0 => (.mk (.type "dict") none (.dict #[(.mk (@PySem.PyData.keyHash x0 (hq "__module__")) (.str (hq "__module__") 253) (.str (hq "vectorcove.errors") 224)), (.mk (@PySem.PyData.keyHash x0 (hq "__firstlineno__")) (.str (hq "__firstlineno__") 257) (.int 38 256)), (.mk (@PySem.PyData.keyHash x0 (hq "__init__")) (.str (hq "__init__") 265) (.ref 72)), (.mk (@PySem.PyData.keyHash x0 (hq "__static_attributes__")) (.str (hq "__static_attributes__") 267) (.ref 73)), (.mk (@PySem.PyData.keyHash x0 (hq "__doc__")) (.str (hq "__doc__") 268) .none)] 2) #[]))
noncomputable def ho110 : Params → Obj := (fun x0 => (.mk (.type "type") none (.cls (.mk (hq "Refusal") [(.ref 55)] [(.ref 75), (.ref 55), (.type "Exception"), (.type "BaseException"), (.type "object")] 74 (hq "Refusal") Bool.true [] [] Bool.false none Bool.false)) #[(some (.ref 59)), none, (some (.str (hq "Refusal") 246)), (some (.str (hq "Refusal") 254)), (some (.builtin "Exception.__new__")), (some (.bool Bool.true))]))
noncomputable def ho111 : Params → Obj := (fun x0 => (.mk (.type "super") none (.fields #[(.ref 75), (.ref 75), (.ref 75)]) #[]))
noncomputable def ho112 : Params → Obj := (fun x0 => (.mk (.type "builtin_function_or_method") none (.fields #[(.builtin "object.__init_subclass__"), (.ref 75)]) #[]))
noncomputable def ho113 : Params → Obj := (fun x0 => (.mk (.type "tuple") none (.seq #[(.int 0 273), (.int 0 274)] 0) #[]))
noncomputable def ho114 : Params → Obj := (fun x0 => (.mk (.type "tuple") none (.seq #[(.int 1 276), (.int 0 277)] 0) #[]))
noncomputable def ho115 : Params → Obj := (fun x0 => (.mk (.type "tuple") none (.seq #[(.int 0 279), (.int 1 280)] 0) #[]))
noncomputable def ho116 : Params → Obj := (fun x0 => (.mk (.type "tuple") none (.seq #[] 0) #[]))
noncomputable def ho117 : Params → Obj := (fun x0 => (.mk .none none (.fields #[]) #[]))
noncomputable def ho118 : Params → Obj := (fun x0 => (.mk (.type "tuple") none (.seq #[(.str (hq "a") 285), (.str (hq "b") 286)] 0) #[]))
noncomputable def ho119 : Params → Obj := (fun x0 => (.mk (.type "tuple") none (.seq #[] 0) #[]))
noncomputable def ho120 : Params → Obj := (fun x0 => (.mk .none none (.func (.mk (hq "gcd") (hq "gcd") (hP (hT 13)) (.stmts (hB (hT 13))) (hS (hT 13)) 0 [] .none .none .none .none none .none .none 0)) #[]))
noncomputable def ho121 : Params → Obj := (fun x0 => (.mk (.type "code") none (.fields #[(.str (hq "gcd") 282), (.str (hq "gcd") 283), (.str (hq "/claim/cut.py") 284), (.int 46 0), (.int 2 0), (.int 0 0), (.int 0 0), (.int 3 0), (.ref 81), (.bool Bool.true), (.int 181 0), (.ref 82), .none, (.ref 83), (.ref 84), (.ref 85), (.int 287 0), (.int 46 0), (.str (hq "/claim/cut.py") 288)]) #[]))
noncomputable def ho122 : Params → Obj := (fun x0 => (.mk (.type "function") none (.func (.mk (hq "gcd") (hq "gcd") (hP (hT 13)) (.stmts (hB (hT 13))) (hS (hT 13)) 3 [] .none .none .none (.str (hq "vectorcove.rational") 271) none (.ref 86) .none 0)) #[]))
noncomputable def ho123 : Params → Obj := (fun x0 => (.mk (.type "tuple") none (.seq #[] 0) #[]))
noncomputable def ho124 : Params → Obj := (fun x0 => (.mk .none none (.fields #[]) #[]))
noncomputable def ho125 : Params → Obj := (fun x0 => (.mk (.type "tuple") none (.seq #[(.str (hq "n") 293), (.str (hq "d") 294), (.str (hq "common") 295)] 0) #[]))
noncomputable def ho126 : Params → Obj := (fun x0 => (.mk (.type "tuple") none (.seq #[] 0) #[]))
noncomputable def ho127 : Params → Obj := (fun x0 => (.mk .none none (.func (.mk (hq "make") (hq "make") (hP (hT 14)) (.stmts (hB (hT 14))) (hS (hT 14)) 0 [] .none .none .none .none none .none .none 0)) #[]))
noncomputable def ho128 : Params → Obj := (fun x0 => (.mk (.type "code") none (.fields #[(.str (hq "make") 290), (.str (hq "make") 291), (.str (hq "/claim/cut.py") 292), (.int 50 0), (.int 2 0), (.int 0 0), (.int 0 0), (.int 3 0), (.ref 88), (.bool Bool.true), (.int 181 0), (.ref 89), .none, (.ref 90), (.ref 91), (.ref 92), (.int 296 0), (.int 50 0), (.str (hq "/claim/cut.py") 297)]) #[]))
noncomputable def ho129 : Params → Obj := (fun x0 => (.mk (.type "function") none (.func (.mk (hq "make") (hq "make") (hP (hT 14)) (.stmts (hB (hT 14))) (hS (hT 14)) 3 [] .none .none .none (.str (hq "vectorcove.rational") 271) none (.ref 93) .none 0)) #[]))
noncomputable def ho130 : Params → Obj := (fun x0 => (.mk (.type "tuple") none (.seq #[] 0) #[]))
noncomputable def ho131 : Params → Obj := (fun x0 => (.mk .none none (.fields #[]) #[]))
noncomputable def ho132 : Params → Obj := (fun x0 => (.mk (.type "tuple") none (.seq #[(.str (hq "n") 302)] 0) #[]))
noncomputable def ho133 : Params → Obj := (fun x0 => (.mk (.type "tuple") none (.seq #[] 0) #[]))
noncomputable def ho134 : Params → Obj := (fun x0 => (.mk .none none (.func (.mk (hq "from_int") (hq "from_int") (hP (hT 15)) (.stmts (hB (hT 15))) (hS (hT 15)) 0 [] .none .none .none .none none .none .none 0)) #[]))
noncomputable def ho135 : Params → Obj := (fun x0 => (.mk (.type "code") none (.fields #[(.str (hq "from_int") 299), (.str (hq "from_int") 300), (.str (hq "/claim/cut.py") 301), (.int 60 0), (.int 1 0), (.int 0 0), (.int 0 0), (.int 3 0), (.ref 95), (.bool Bool.true), (.int 181 0), (.ref 96), .none, (.ref 97), (.ref 98), (.ref 99), (.int 303 0), (.int 60 0), (.str (hq "/claim/cut.py") 304)]) #[]))
noncomputable def ho136 : Params → Obj := (fun x0 => (.mk (.type "function") none (.func (.mk (hq "from_int") (hq "from_int") (hP (hT 15)) (.stmts (hB (hT 15))) (hS (hT 15)) 3 [] .none .none .none (.str (hq "vectorcove.rational") 271) none (.ref 100) .none 0)) #[]))
noncomputable def ho137 : Params → Obj := (fun x0 => (.mk (.type "tuple") none (.seq #[] 0) #[]))
noncomputable def ho138 : Params → Obj := (fun x0 => (.mk .none none (.fields #[]) #[]))
noncomputable def ho139 : Params → Obj := (fun x0 => (.mk (.type "tuple") none (.seq #[(.str (hq "x") 309)] 0) #[]))
noncomputable def ho140 : Params → Obj := (fun x0 => (.mk (.type "tuple") none (.seq #[] 0) #[]))
noncomputable def ho141 : Params → Obj := (fun x0 => (.mk .none none (.func (.mk (hq "is_na") (hq "is_na") (hP (hT 16)) (.stmts (hB (hT 16))) (hS (hT 25)) 0 [] .none .none .none .none none .none .none 0)) #[]))
noncomputable def ho142 : Params → Obj := (fun x0 => (.mk (.type "code") none (.fields #[(.str (hq "is_na") 306), (.str (hq "is_na") 307), (.str (hq "/claim/cut.py") 308), (.int 64 0), (.int 1 0), (.int 0 0), (.int 0 0), (.int 3 0), (.ref 102), (.bool Bool.true), (.int 181 0), (.ref 103), .none, (.ref 104), (.ref 105), (.ref 106), (.int 310 0), (.int 64 0), (.str (hq "/claim/cut.py") 311)]) #[]))
noncomputable def ho143 : Params → Obj := (fun x0 => (.mk (.type "function") none (.func (.mk (hq "is_na") (hq "is_na") (hP (hT 16)) (.stmts (hB (hT 16))) (hS (hT 25)) 3 [] .none .none .none (.str (hq "vectorcove.rational") 271) none (.ref 107) .none 0)) #[]))
noncomputable def ho144 : Params → Obj := (fun x0 => (.mk (.type "tuple") none (.seq #[] 0) #[]))
noncomputable def ho145 : Params → Obj := (fun x0 => (.mk .none none (.fields #[]) #[]))
noncomputable def ho146 : Params → Obj := (fun x0 => (.mk (.type "tuple") none (.seq #[(.str (hq "x") 316)] 0) #[]))
noncomputable def ho147 : Params → Obj := (fun x0 => (.mk (.type "tuple") none (.seq #[] 0) #[]))
noncomputable def ho148 : Params → Obj := (fun x0 => (.mk .none none (.func (.mk (hq "is_finite") (hq "is_finite") (hP (hT 17)) (.stmts (hB (hT 17))) (hS (hT 25)) 0 [] .none .none .none .none none .none .none 0)) #[]))
noncomputable def ho149 : Params → Obj := (fun x0 => (.mk (.type "code") none (.fields #[(.str (hq "is_finite") 313), (.str (hq "is_finite") 314), (.str (hq "/claim/cut.py") 315), (.int 66 0), (.int 1 0), (.int 0 0), (.int 0 0), (.int 3 0), (.ref 109), (.bool Bool.true), (.int 181 0), (.ref 110), .none, (.ref 111), (.ref 112), (.ref 113), (.int 317 0), (.int 66 0), (.str (hq "/claim/cut.py") 318)]) #[]))
noncomputable def ho150 : Params → Obj := (fun x0 => (.mk (.type "function") none (.func (.mk (hq "is_finite") (hq "is_finite") (hP (hT 17)) (.stmts (hB (hT 17))) (hS (hT 25)) 3 [] .none .none .none (.str (hq "vectorcove.rational") 271) none (.ref 114) .none 0)) #[]))
noncomputable def ho151 : Params → Obj := (fun x0 => (.mk (.type "tuple") none (.seq #[] 0) #[]))
noncomputable def ho152 : Params → Obj := (fun x0 => (.mk .none none (.fields #[]) #[]))
noncomputable def ho153 : Params → Obj := (fun x0 => (.mk (.type "tuple") none (.seq #[(.str (hq "x") 323)] 0) #[]))
noncomputable def ho154 : Params → Obj := (fun x0 => (.mk (.type "tuple") none (.seq #[] 0) #[]))
noncomputable def ho155 : Params → Obj := (fun x0 => (.mk .none none (.func (.mk (hq "neg") (hq "neg") (hP (hT 18)) (.stmts (hB (hT 18))) (hS (hT 25)) 0 [] .none .none .none .none none .none .none 0)) #[]))
noncomputable def ho156 : Params → Obj := (fun x0 => (.mk (.type "code") none (.fields #[(.str (hq "neg") 320), (.str (hq "neg") 321), (.str (hq "/claim/cut.py") 322), (.int 68 0), (.int 1 0), (.int 0 0), (.int 0 0), (.int 3 0), (.ref 116), (.bool Bool.true), (.int 181 0), (.ref 117), .none, (.ref 118), (.ref 119), (.ref 120), (.int 324 0), (.int 68 0), (.str (hq "/claim/cut.py") 325)]) #[]))
noncomputable def ho157 : Params → Obj := (fun x0 => (.mk (.type "function") none (.func (.mk (hq "neg") (hq "neg") (hP (hT 18)) (.stmts (hB (hT 18))) (hS (hT 25)) 3 [] .none .none .none (.str (hq "vectorcove.rational") 271) none (.ref 121) .none 0)) #[]))
noncomputable def ho158 : Params → Obj := (fun x0 => (.mk (.type "tuple") none (.seq #[] 0) #[]))
noncomputable def ho159 : Params → Obj := (fun x0 => (.mk .none none (.fields #[]) #[]))
noncomputable def ho160 : Params → Obj := (fun x0 => (.mk (.type "tuple") none (.seq #[(.str (hq "x") 330), (.str (hq "found") 331)] 0) #[]))
noncomputable def ho161 : Params → Obj := (fun x0 => (.mk (.type "tuple") none (.seq #[] 0) #[]))
noncomputable def ho162 : Params → Obj := (fun x0 => (.mk .none none (.func (.mk (hq "to_whole") (hq "to_whole") (hP (hT 19)) (.stmts (hB (hT 19))) (hS (hT 19)) 0 [] .none .none .none .none none .none .none 0)) #[]))
noncomputable def ho163 : Params → Obj := (fun x0 => (.mk (.type "code") none (.fields #[(.str (hq "to_whole") 327), (.str (hq "to_whole") 328), (.str (hq "/claim/cut.py") 329), (.int 72 0), (.int 1 0), (.int 0 0), (.int 0 0), (.int 3 0), (.ref 123), (.bool Bool.true), (.int 181 0), (.ref 124), .none, (.ref 125), (.ref 126), (.ref 127), (.int 332 0), (.int 72 0), (.str (hq "/claim/cut.py") 333)]) #[]))
noncomputable def ho164 : Params → Obj := (fun x0 => (.mk (.type "function") none (.func (.mk (hq "to_whole") (hq "to_whole") (hP (hT 19)) (.stmts (hB (hT 19))) (hS (hT 19)) 3 [] .none .none .none (.str (hq "vectorcove.rational") 271) none (.ref 128) .none 0)) #[]))
noncomputable def ho165 : Params → Obj := (fun x0 => (.mk (.type "tuple") none (.seq #[] 0) #[]))
noncomputable def ho166 : Params → Obj := (fun x0 => (.mk .none none (.fields #[]) #[]))
noncomputable def ho167 : Params → Obj := (fun x0 => (.mk (.type "tuple") none (.seq #[(.str (hq "n") 338), (.str (hq "d") 339), (.str (hq "low") 340), (.str (hq "rest") 341)] 0) #[]))
noncomputable def ho168 : Params → Obj := (fun x0 => (.mk (.type "tuple") none (.seq #[] 0) #[]))
noncomputable def ho169 : Params → Obj := (fun x0 => (.mk .none none (.func (.mk (hq "nearest_whole") (hq "nearest_whole") (hP (hT 20)) (.stmts (hB (hT 20))) (hS (hT 20)) 0 [] .none .none .none .none none .none .none 0)) #[]))
noncomputable def ho170 : Params → Obj := (fun x0 => (.mk (.type "code") none (.fields #[(.str (hq "nearest_whole") 335), (.str (hq "nearest_whole") 336), (.str (hq "/claim/cut.py") 337), (.int 77 0), (.int 2 0), (.int 0 0), (.int 0 0), (.int 3 0), (.ref 130), (.bool Bool.true), (.int 181 0), (.ref 131), .none, (.ref 132), (.ref 133), (.ref 134), (.int 342 0), (.int 77 0), (.str (hq "/claim/cut.py") 343)]) #[]))
noncomputable def ho171 : Params → Obj := (fun x0 => (.mk (.type "function") none (.func (.mk (hq "nearest_whole") (hq "nearest_whole") (hP (hT 20)) (.stmts (hB (hT 20))) (hS (hT 20)) 3 [] .none .none .none (.str (hq "vectorcove.rational") 271) none (.ref 135) .none 0)) #[]))
noncomputable def ho172 : Params → Obj := (fun x0 => (.mk (.type "tuple") none (.seq #[] 0) #[]))
noncomputable def ho173 : Params → Obj := (fun x0 => (.mk .none none (.fields #[]) #[]))
noncomputable def ho174 : Params → Obj := (fun x0 => (.mk (.type "tuple") none (.seq #[(.str (hq "x") 348), (.str (hq "n") 349), (.str (hq "d") 350), (.str (hq "e") 351)] 0) #[]))
noncomputable def ho175 : Params → Obj := (fun x0 => (.mk (.type "tuple") none (.seq #[] 0) #[]))
noncomputable def ho176 : Params → Obj := (fun x0 => (.mk .none none (.func (.mk (hq "exponent") (hq "exponent") (hP (hT 21)) (.stmts (hB (hT 21))) (hS (hT 21)) 0 [] .none .none .none .none none .none .none 0)) #[]))
noncomputable def ho177 : Params → Obj := (fun x0 => (.mk (.type "code") none (.fields #[(.str (hq "exponent") 345), (.str (hq "exponent") 346), (.str (hq "/claim/cut.py") 347), (.int 83 0), (.int 1 0), (.int 0 0), (.int 0 0), (.int 3 0), (.ref 137), (.bool Bool.true), (.int 181 0), (.ref 138), .none, (.ref 139), (.ref 140), (.ref 141), (.int 352 0), (.int 83 0), (.str (hq "/claim/cut.py") 353)]) #[]))
noncomputable def ho178 : Params → Obj := (fun x0 => (.mk (.type "function") none (.func (.mk (hq "exponent") (hq "exponent") (hP (hT 21)) (.stmts (hB (hT 21))) (hS (hT 21)) 3 [] .none .none .none (.str (hq "vectorcove.rational") 271) none (.ref 142) .none 0)) #[]))
noncomputable def ho179 : Params → Obj := (fun x0 => (.mk (.type "tuple") none (.seq #[] 0) #[]))
noncomputable def ho180 : Params → Obj := (fun x0 => (.mk .none none (.fields #[]) #[]))
noncomputable def ho181 : Params → Obj := (fun x0 => (.mk (.type "tuple") none (.seq #[(.str (hq "n") 362), (.str (hq "rest") 363), (.str (hq "row") 364), (.str (hq "part") 365)] 0) #[]))
noncomputable def ho182 : Params → Obj := (fun x0 => (.mk (.type "tuple") none (.seq #[] 0) #[]))
noncomputable def ho183 : Params → Obj := (fun x0 => (.mk .none none (.func (.mk (hq "whole_text") (hq "whole_text") (hP (hT 24)) (.stmts (hB (hT 24))) (hS (hT 24)) 0 [] .none .none .none .none none .none .none 0)) #[]))
noncomputable def ho184 : Params → Obj := (fun x0 => (.mk (.type "code") none (.fields #[(.str (hq "whole_text") 359), (.str (hq "whole_text") 360), (.str (hq "/claim/cut.py") 361), (.int 96 0), (.int 1 0), (.int 0 0), (.int 0 0), (.int 3 0), (.ref 144), (.bool Bool.true), (.int 181 0), (.ref 145), .none, (.ref 146), (.ref 147), (.ref 148), (.int 366 0), (.int 96 0), (.str (hq "/claim/cut.py") 367)]) #[]))
noncomputable def ho185 : Params → Obj := (fun x0 => (.mk (.type "function") none (.func (.mk (hq "whole_text") (hq "whole_text") (hP (hT 24)) (.stmts (hB (hT 24))) (hS (hT 24)) 3 [] .none .none .none (.str (hq "vectorcove.numtext") 355) none (.ref 149) .none 0)) #[]))
noncomputable def ho186 : Params → Obj := (fun x0 => (.mk (.type "tuple") none (.seq #[] 0) #[]))
noncomputable def ho187 : Params → Obj := (fun x0 => (.mk .none none (.fields #[]) #[]))
noncomputable def ho188 : Params → Obj := (fun x0 => (.mk (.type "tuple") none (.seq #[(.str (hq "x") 372)] 0) #[]))
noncomputable def ho189 : Params → Obj := (fun x0 => (.mk (.type "tuple") none (.seq #[] 0) #[]))
noncomputable def ho190 : Params → Obj := (fun x0 => (.mk .none none (.func (.mk (hq "special_text") (hq "special_text") (hP (hT 25)) (.stmts (hB (hT 25))) (hS (hT 25)) 0 [] .none .none .none .none none .none .none 0)) #[]))
noncomputable def ho191 : Params → Obj := (fun x0 => (.mk (.type "code") none (.fields #[(.str (hq "special_text") 369), (.str (hq "special_text") 370), (.str (hq "/claim/cut.py") 371), (.int 107 0), (.int 1 0), (.int 0 0), (.int 0 0), (.int 3 0), (.ref 151), (.bool Bool.true), (.int 181 0), (.ref 152), .none, (.ref 153), (.ref 154), (.ref 155), (.int 373 0), (.int 107 0), (.str (hq "/claim/cut.py") 374)]) #[]))
noncomputable def ho192 : Params → Obj := (fun x0 => (.mk (.type "function") none (.func (.mk (hq "special_text") (hq "special_text") (hP (hT 25)) (.stmts (hB (hT 25))) (hS (hT 25)) 3 [] .none .none .none (.str (hq "vectorcove.numtext") 355) none (.ref 156) .none 0)) #[]))
noncomputable def ho193 : Params → Obj := (fun x0 => (.mk (.type "tuple") none (.seq #[] 0) #[]))
noncomputable def ho194 : Params → Obj := (fun x0 => (.mk .none none (.fields #[]) #[]))
noncomputable def ho195 : Params → Obj := (fun x0 => (.mk (.type "tuple") none (.seq #[(.str (hq "x") 379), (.str (hq "e") 380), (.str (hq "digits") 381), (.str (hq "shift") 382)] 0) #[]))
noncomputable def ho196 : Params → Obj := (fun x0 => (.mk (.type "tuple") none (.seq #[] 0) #[]))
noncomputable def ho197 : Params → Obj := (fun x0 => (.mk .none none (.func (.mk (hq "scaled") (hq "scaled") (hP (hT 26)) (.stmts (hB (hT 26))) (hS (hT 26)) 0 [] .none .none .none .none none .none .none 0)) #[]))
noncomputable def ho198 : Params → Obj := (fun x0 => (.mk (.type "code") none (.fields #[(.str (hq "scaled") 376), (.str (hq "scaled") 377), (.str (hq "/claim/cut.py") 378), (.int 115 0), (.int 3 0), (.int 0 0), (.int 0 0), (.int 3 0), (.ref 158), (.bool Bool.true), (.int 181 0), (.ref 159), .none, (.ref 160), (.ref 161), (.ref 162), (.int 383 0), (.int 115 0), (.str (hq "/claim/cut.py") 384)]) #[]))
noncomputable def ho199 : Params → Obj := (fun x0 => (.mk (.type "function") none (.func (.mk (hq "scaled") (hq "scaled") (hP (hT 26)) (.stmts (hB (hT 26))) (hS (hT 26)) 3 [] .none .none .none (.str (hq "vectorcove.numtext") 355) none (.ref 163) .none 0)) #[]))
noncomputable def ho200 : Params → Obj := (fun x0 => (.mk (.type "tuple") none (.seq #[] 0) #[]))
noncomputable def ho201 : Params → Obj := (fun x0 => (.mk .none none (.fields #[]) #[]))
noncomputable def ho202 : Params → Obj := (fun x0 => (.mk (.type "tuple") none (.seq #[(.str (hq "x") 389), (.str (hq "digits") 390), (.str (hq "e") 391), (.str (hq "n") 392)] 0) #[]))
noncomputable def ho203 : Params → Obj := (fun x0 => (.mk (.type "tuple") none (.seq #[] 0) #[]))
noncomputable def ho204 : Params → Obj := (fun x0 => (.mk .none none (.func (.mk (hq "significant") (hq "significant") (hP (hT 27)) (.stmts (hB (hT 27))) (hS (hT 27)) 0 [] .none .none .none .none none .none .none 0)) #[]))
noncomputable def ho205 : Params → Obj := (fun x0 => (.mk (.type "code") none (.fields #[(.str (hq "significant") 386), (.str (hq "significant") 387), (.str (hq "/claim/cut.py") 388), (.int 120 0), (.int 2 0), (.int 0 0), (.int 0 0), (.int 3 0), (.ref 165), (.bool Bool.true), (.int 181 0), (.ref 166), .none, (.ref 167), (.ref 168), (.ref 169), (.int 393 0), (.int 120 0), (.str (hq "/claim/cut.py") 394)]) #[]))
noncomputable def ho206 : Params → Obj := (fun x0 => (.mk (.type "function") none (.func (.mk (hq "significant") (hq "significant") (hP (hT 27)) (.stmts (hB (hT 27))) (hS (hT 27)) 3 [] .none .none .none (.str (hq "vectorcove.numtext") 355) none (.ref 170) .none 0)) #[]))
noncomputable def ho207 : Params → Obj := (fun x0 => (.mk (.type "tuple") none (.seq #[] 0) #[]))
noncomputable def ho208 : Params → Obj := (fun x0 => (.mk .none none (.fields #[]) #[]))
noncomputable def ho209 : Params → Obj := (fun x0 => (.mk (.type "tuple") none (.seq #[(.str (hq "text") 399), (.str (hq "end") 400)] 0) #[]))
noncomputable def ho210 : Params → Obj := (fun x0 => (.mk (.type "tuple") none (.seq #[] 0) #[]))
noncomputable def ho211 : Params → Obj := (fun x0 => (.mk .none none (.func (.mk (hq "without_tail") (hq "without_tail") (hP (hT 28)) (.stmts (hB (hT 28))) (hS (hT 28)) 0 [] .none .none .none .none none .none .none 0)) #[]))
noncomputable def ho212 : Params → Obj := (fun x0 => (.mk (.type "code") none (.fields #[(.str (hq "without_tail") 396), (.str (hq "without_tail") 397), (.str (hq "/claim/cut.py") 398), (.int 129 0), (.int 1 0), (.int 0 0), (.int 0 0), (.int 3 0), (.ref 172), (.bool Bool.true), (.int 181 0), (.ref 173), .none, (.ref 174), (.ref 175), (.ref 176), (.int 401 0), (.int 129 0), (.str (hq "/claim/cut.py") 402)]) #[]))
noncomputable def ho213 : Params → Obj := (fun x0 => (.mk (.type "function") none (.func (.mk (hq "without_tail") (hq "without_tail") (hP (hT 28)) (.stmts (hB (hT 28))) (hS (hT 28)) 3 [] .none .none .none (.str (hq "vectorcove.numtext") 355) none (.ref 177) .none 0)) #[]))
noncomputable def ho214 : Params → Obj := (fun x0 => (.mk (.type "tuple") none (.seq #[] 0) #[]))
noncomputable def ho215 : Params → Obj := (fun x0 => (.mk .none none (.fields #[]) #[]))
noncomputable def ho216 : Params → Obj := (fun x0 => (.mk (.type "tuple") none (.seq #[(.str (hq "x") 407), (.str (hq "digits") 408), (.str (hq "side") 409), (.str (hq "text") 410), (.str (hq "e") 411), (.str (hq "row") 412)] 0) #[]))
noncomputable def ho217 : Params → Obj := (fun x0 => (.mk (.type "tuple") none (.seq #[] 0) #[]))
noncomputable def ho218 : Params → Obj := (fun x0 => (.mk .none none (.func (.mk (hq "scientific_text") (hq "scientific_text") (hP (hT 29)) (.stmts (hB (hT 29))) (hS (hT 29)) 0 [] .none .none .none .none none .none .none 0)) #[]))
noncomputable def ho219 : Params → Obj := (fun x0 => (.mk (.type "code") none (.fields #[(.str (hq "scientific_text") 404), (.str (hq "scientific_text") 405), (.str (hq "/claim/cut.py") 406), (.int 134 0), (.int 2 0), (.int 0 0), (.int 0 0), (.int 3 0), (.ref 179), (.bool Bool.true), (.int 181 0), (.ref 180), .none, (.ref 181), (.ref 182), (.ref 183), (.int 413 0), (.int 134 0), (.str (hq "/claim/cut.py") 414)]) #[]))
noncomputable def ho220 : Params → Obj := (fun x0 => (.mk (.type "function") none (.func (.mk (hq "scientific_text") (hq "scientific_text") (hP (hT 29)) (.stmts (hB (hT 29))) (hS (hT 29)) 3 [] .none .none .none (.str (hq "vectorcove.numtext") 355) none (.ref 184) .none 0)) #[]))
noncomputable def ho221 : Params → Obj := (fun x0 => (.mk (.type "tuple") none (.seq #[] 0) #[]))
noncomputable def ho222 : Params → Obj := (fun x0 => (.mk .none none (.fields #[]) #[]))
noncomputable def ho223 : Params → Obj := (fun x0 => (.mk (.type "tuple") none (.seq #[(.str (hq "x") 419), (.str (hq "places") 420), (.str (hq "n") 421), (.str (hq "text") 422)] 0) #[]))
noncomputable def ho224 : Params → Obj := (fun x0 => (.mk (.type "tuple") none (.seq #[] 0) #[]))
noncomputable def ho225 : Params → Obj := (fun x0 => (.mk .none none (.func (.mk (hq "fixed_text") (hq "fixed_text") (hP (hT 30)) (.stmts (hB (hT 30))) (hS (hT 30)) 0 [] .none .none .none .none none .none .none 0)) #[]))
noncomputable def ho226 : Params → Obj := (fun x0 => (.mk (.type "code") none (.fields #[(.str (hq "fixed_text") 416), (.str (hq "fixed_text") 417), (.str (hq "/claim/cut.py") 418), (.int 141 0), (.int 2 0), (.int 0 0), (.int 0 0), (.int 3 0), (.ref 186), (.bool Bool.true), (.int 181 0), (.ref 187), .none, (.ref 188), (.ref 189), (.ref 190), (.int 423 0), (.int 141 0), (.str (hq "/claim/cut.py") 424)]) #[]))
noncomputable def ho227 : Params → Obj := (fun x0 => (.mk (.type "function") none (.func (.mk (hq "fixed_text") (hq "fixed_text") (hP (hT 30)) (.stmts (hB (hT 30))) (hS (hT 30)) 3 [] .none .none .none (.str (hq "vectorcove.numtext") 355) none (.ref 191) .none 0)) #[]))
noncomputable def ho228 : Params → Obj := (fun x0 => (.mk (.type "tuple") none (.seq #[] 0) #[]))
noncomputable def ho229 : Params → Obj := (fun x0 => (.mk .none none (.fields #[]) #[]))
noncomputable def ho230 : Params → Obj := (fun x0 => (.mk (.type "tuple") none (.seq #[(.str (hq "x") 429), (.str (hq "digits") 430), (.str (hq "side") 431), (.str (hq "text") 432), (.str (hq "e") 433), (.str (hq "count") 434), (.str (hq "left") 435)] 0) #[]))
noncomputable def ho231 : Params → Obj := (fun x0 => (.mk (.type "tuple") none (.seq #[] 0) #[]))
noncomputable def ho232 : Params → Obj := (fun x0 => (.mk .none none (.func (.mk (hq "measures") (hq "measures") (hP (hT 31)) (.stmts (hB (hT 31))) (hS (hT 31)) 0 [] .none .none .none .none none .none .none 0)) #[]))
noncomputable def ho233 : Params → Obj := (fun x0 => (.mk (.type "code") none (.fields #[(.str (hq "measures") 426), (.str (hq "measures") 427), (.str (hq "/claim/cut.py") 428), (.int 149 0), (.int 2 0), (.int 0 0), (.int 0 0), (.int 3 0), (.ref 193), (.bool Bool.true), (.int 181 0), (.ref 194), .none, (.ref 195), (.ref 196), (.ref 197), (.int 436 0), (.int 149 0), (.str (hq "/claim/cut.py") 437)]) #[]))
noncomputable def ho234 : Params → Obj := (fun x0 => (.mk (.type "function") none (.func (.mk (hq "measures") (hq "measures") (hP (hT 31)) (.stmts (hB (hT 31))) (hS (hT 31)) 3 [] .none .none .none (.str (hq "vectorcove.numtext") 355) none (.ref 198) .none 0)) #[]))
noncomputable def ho235 : Params → Obj := (fun x0 => (.mk (.type "tuple") none (.seq #[] 0) #[]))
noncomputable def ho236 : Params → Obj := (fun x0 => (.mk .none none (.fields #[]) #[]))
noncomputable def ho237 : Params → Obj := (fun x0 => (.mk (.type "tuple") none (.seq #[(.str (hq "xs") 442), (.str (hq "digits") 443), (.str (hq "count") 444), (.str (hq "left") 445), (.str (hq "places") 446), (.str (hq "wide") 447), (.str (hq "minus") 448), (.str (hq "x") 449), (.str (hq "row") 450), (.str (hq "fixed_width") 451), (.str (hq "scientific_width") 452)] 0) #[]))
noncomputable def ho238 : Params → Obj := (fun x0 => (.mk (.type "tuple") none (.seq #[] 0) #[]))
noncomputable def ho239 : Params → Obj := (fun x0 => (.mk .none none (.func (.mk (hq "chosen_form") (hq "chosen_form") (hP (hT 32)) (.stmts (hB (hT 32))) (hS (hT 32)) 0 [] .none .none .none .none none .none .none 0)) #[]))
noncomputable def ho240 : Params → Obj := (fun x0 => (.mk (.type "code") none (.fields #[(.str (hq "chosen_form") 439), (.str (hq "chosen_form") 440), (.str (hq "/claim/cut.py") 441), (.int 156 0), (.int 2 0), (.int 0 0), (.int 0 0), (.int 3 0), (.ref 200), (.bool Bool.true), (.int 181 0), (.ref 201), .none, (.ref 202), (.ref 203), (.ref 204), (.int 453 0), (.int 156 0), (.str (hq "/claim/cut.py") 454)]) #[]))
noncomputable def ho241 : Params → Obj := (fun x0 => (.mk (.type "function") none (.func (.mk (hq "chosen_form") (hq "chosen_form") (hP (hT 32)) (.stmts (hB (hT 32))) (hS (hT 32)) 3 [] .none .none .none (.str (hq "vectorcove.numtext") 355) none (.ref 205) .none 0)) #[]))
noncomputable def ho242 : Params → Obj := (fun x0 => (.mk (.type "tuple") none (.seq #[] 0) #[]))
noncomputable def ho243 : Params → Obj := (fun x0 => (.mk .none none (.fields #[]) #[]))
noncomputable def ho244 : Params → Obj := (fun x0 => (.mk (.type "tuple") none (.seq #[(.str (hq "x") 459), (.str (hq "form") 460), (.str (hq "text") 461)] 0) #[]))
noncomputable def ho245 : Params → Obj := (fun x0 => (.mk (.type "tuple") none (.seq #[] 0) #[]))
noncomputable def ho246 : Params → Obj := (fun x0 => (.mk .none none (.func (.mk (hq "formed") (hq "formed") (hP (hT 33)) (.stmts (hB (hT 33))) (hS (hT 33)) 0 [] .none .none .none .none none .none .none 0)) #[]))
noncomputable def ho247 : Params → Obj := (fun x0 => (.mk (.type "code") none (.fields #[(.str (hq "formed") 456), (.str (hq "formed") 457), (.str (hq "/claim/cut.py") 458), (.int 176 0), (.int 2 0), (.int 0 0), (.int 0 0), (.int 3 0), (.ref 207), (.bool Bool.true), (.int 181 0), (.ref 208), .none, (.ref 209), (.ref 210), (.ref 211), (.int 462 0), (.int 176 0), (.str (hq "/claim/cut.py") 463)]) #[]))
noncomputable def ho248 : Params → Obj := (fun x0 => (.mk (.type "function") none (.func (.mk (hq "formed") (hq "formed") (hP (hT 33)) (.stmts (hB (hT 33))) (hS (hT 33)) 3 [] .none .none .none (.str (hq "vectorcove.numtext") 355) none (.ref 212) .none 0)) #[]))
noncomputable def ho249 : Params → Obj := (fun x0 => (.mk (.type "tuple") none (.seq #[] 0) #[]))
noncomputable def ho250 : Params → Obj := (fun x0 => (.mk .none none (.fields #[]) #[]))
noncomputable def ho251 : Params → Obj := (fun x0 => (.mk .none none (.func (.mk (hq "common_texts") (hq "common_texts") (hP (hT 34)) (.stmts (hB (hT 34))) (hS (hT 34)) 0 [] .none .none .none .none none .none .none 0)) #[]))
noncomputable def ho252 : Params → Obj := (fun x0 => (.mk (.type "code") none (.fields #[(.str (hq "common_texts") 465), (.str (hq "common_texts") 466), (.str (hq "/claim/cut.py") 467), (.int 183 0), (.int 2 0), (.int 0 0), (.int 0 0), (.int 3 0), (.ref 214), (.bool Bool.true), (.int 181 0), (.ref 215), .none, .none, .none, (.ref 216), (.int 468 0), (.int 183 0), (.str (hq "/claim/cut.py") 469)]) #[]))
noncomputable def ho253 : Params → Obj := (fun x0 => (.mk (.type "function") none (.func (.mk (hq "common_texts") (hq "common_texts") (hP (hT 34)) (.stmts (hB (hT 34))) (hS (hT 34)) 3 [] .none .none .none (.str (hq "vectorcove.numtext") 355) none (.ref 217) .none 0)) #[]))
noncomputable def ho254 : Params → Obj := (fun x0 => (.mk (.type "tuple") none (.seq #[(.int 7 471)] 0) #[]))
noncomputable def ho255 : Params → Obj := (fun x0 => (.mk (.type "tuple") none (.seq #[] 0) #[]))
noncomputable def ho256 : Params → Obj := (fun x0 => (.mk .none none (.fields #[]) #[]))
noncomputable def ho257 : Params → Obj := (fun x0 => (.mk (.type "tuple") none (.seq #[(.str (hq "x") 475), (.str (hq "digits") 476)] 0) #[]))
noncomputable def ho258 : Params → Obj := (fun x0 => (.mk (.type "tuple") none (.seq #[] 0) #[]))
noncomputable def ho259 : Params → Obj := (fun x0 => (.mk .none none (.func (.mk (hq "number_text") (hq "number_text") (hP (hT 35)) (.stmts (hB (hT 35))) (hS (hT 35)) 0 [] .none .none .none .none none .none .none 0)) #[]))
noncomputable def ho260 : Params → Obj := (fun x0 => (.mk (.type "code") none (.fields #[(.str (hq "number_text") 472), (.str (hq "number_text") 473), (.str (hq "/claim/cut.py") 474), (.int 187 0), (.int 2 0), (.int 0 0), (.int 0 0), (.int 3 0), (.ref 220), (.bool Bool.true), (.int 181 0), (.ref 221), .none, (.ref 222), (.ref 223), (.ref 224), (.int 477 0), (.int 187 0), (.str (hq "/claim/cut.py") 478)]) #[]))
noncomputable def ho261 : Params → Obj := (fun x0 => (.mk (.type "function") none (.func (.mk (hq "number_text") (hq "number_text") (hP (hT 35)) (.stmts (hB (hT 35))) (hS (hT 35)) 3 [] (.ref 219) .none .none (.str (hq "vectorcove.numtext") 355) none (.ref 225) .none 0)) #[]))
noncomputable def ho262 : Params → Obj := (fun x0 => (.mk (.type "tuple") none (.seq #[] 0) #[]))
noncomputable def ho263 : Params → Obj := (fun x0 => (.mk .none none (.fields #[]) #[]))
noncomputable def ho264 : Params → Obj := (fun x0 => (.mk (.type "tuple") none (.seq #[(.str (hq "text") 483), (.str (hq "base") 484), (.str (hq "value") 485), (.str (hq "char") 486)] 0) #[]))
noncomputable def ho265 : Params → Obj := (fun x0 => (.mk (.type "tuple") none (.seq #[] 0) #[]))
noncomputable def ho266 : Params → Obj := (fun x0 => (.mk .none none (.func (.mk (hq "digits_value") (hq "digits_value") (hP (hT 36)) (.stmts (hB (hT 36))) (hS (hT 36)) 0 [] .none .none .none .none none .none .none 0)) #[]))
noncomputable def ho267 : Params → Obj := (fun x0 => (.mk (.type "code") none (.fields #[(.str (hq "digits_value") 480), (.str (hq "digits_value") 481), (.str (hq "/claim/cut.py") 482), (.int 189 0), (.int 2 0), (.int 0 0), (.int 0 0), (.int 3 0), (.ref 227), (.bool Bool.true), (.int 181 0), (.ref 228), .none, (.ref 229), (.ref 230), (.ref 231), (.int 487 0), (.int 189 0), (.str (hq "/claim/cut.py") 488)]) #[]))
noncomputable def ho268 : Params → Obj := (fun x0 => (.mk (.type "function") none (.func (.mk (hq "digits_value") (hq "digits_value") (hP (hT 36)) (.stmts (hB (hT 36))) (hS (hT 36)) 3 [] .none .none .none (.str (hq "vectorcove.numtext") 355) none (.ref 232) .none 0)) #[]))
noncomputable def ho269 : Params → Obj := (fun x0 => (.mk (.type "tuple") none (.seq #[] 0) #[]))
noncomputable def ho270 : Params → Obj := (fun x0 => (.mk .none none (.fields #[]) #[]))
noncomputable def ho271 : Params → Obj := (fun x0 => (.mk (.type "tuple") none (.seq #[(.str (hq "text") 493), (.str (hq "at") 494), (.str (hq "digits") 495)] 0) #[]))
noncomputable def ho272 : Params → Obj := (fun x0 => (.mk (.type "tuple") none (.seq #[] 0) #[]))
noncomputable def ho273 : Params → Obj := (fun x0 => (.mk .none none (.func (.mk (hq "digit_run") (hq "digit_run") (hP (hT 37)) (.stmts (hB (hT 37))) (hS (hT 37)) 0 [] .none .none .none .none none .none .none 0)) #[]))
noncomputable def ho274 : Params → Obj := (fun x0 => (.mk (.type "code") none (.fields #[(.str (hq "digit_run") 490), (.str (hq "digit_run") 491), (.str (hq "/claim/cut.py") 492), (.int 194 0), (.int 3 0), (.int 0 0), (.int 0 0), (.int 3 0), (.ref 234), (.bool Bool.true), (.int 181 0), (.ref 235), .none, (.ref 236), (.ref 237), (.ref 238), (.int 496 0), (.int 194 0), (.str (hq "/claim/cut.py") 497)]) #[]))
noncomputable def ho275 : Params → Obj := (fun x0 => (.mk (.type "function") none (.func (.mk (hq "digit_run") (hq "digit_run") (hP (hT 37)) (.stmts (hB (hT 37))) (hS (hT 37)) 3 [] .none .none .none (.str (hq "vectorcove.numtext") 355) none (.ref 239) .none 0)) #[]))
noncomputable def ho276 : Params → Obj := (fun x0 => (.mk (.type "tuple") none (.seq #[] 0) #[]))
noncomputable def ho277 : Params → Obj := (fun x0 => (.mk .none none (.fields #[]) #[]))
noncomputable def ho278 : Params → Obj := (fun x0 => (.mk (.type "tuple") none (.seq #[(.str (hq "text") 502), (.str (hq "start") 503), (.str (hq "value") 504)] 0) #[]))
noncomputable def ho279 : Params → Obj := (fun x0 => (.mk (.type "tuple") none (.seq #[] 0) #[]))
noncomputable def ho280 : Params → Obj := (fun x0 => (.mk .none none (.func (.mk (hq "exponent_value") (hq "exponent_value") (hP (hT 38)) (.stmts (hB (hT 38))) (hS (hT 38)) 0 [] .none .none .none .none none .none .none 0)) #[]))
noncomputable def ho281 : Params → Obj := (fun x0 => (.mk (.type "code") none (.fields #[(.str (hq "exponent_value") 499), (.str (hq "exponent_value") 500), (.str (hq "/claim/cut.py") 501), (.int 198 0), (.int 1 0), (.int 0 0), (.int 0 0), (.int 3 0), (.ref 241), (.bool Bool.true), (.int 181 0), (.ref 242), .none, (.ref 243), (.ref 244), (.ref 245), (.int 505 0), (.int 198 0), (.str (hq "/claim/cut.py") 506)]) #[]))
noncomputable def ho282 : Params → Obj := (fun x0 => (.mk (.type "function") none (.func (.mk (hq "exponent_value") (hq "exponent_value") (hP (hT 38)) (.stmts (hB (hT 38))) (hS (hT 38)) 3 [] .none .none .none (.str (hq "vectorcove.numtext") 355) none (.ref 246) .none 0)) #[]))
noncomputable def ho283 : Params → Obj := (fun x0 => (.mk (.type "tuple") none (.seq #[] 0) #[]))
noncomputable def ho284 : Params → Obj := (fun x0 => (.mk .none none (.fields #[]) #[]))
noncomputable def ho285 : Params → Obj := (fun x0 => (.mk (.type "tuple") none (.seq #[(.str (hq "n") 511), (.str (hq "base") 512), (.str (hq "e") 513)] 0) #[]))
noncomputable def ho286 : Params → Obj := (fun x0 => (.mk (.type "tuple") none (.seq #[] 0) #[]))
noncomputable def ho287 : Params → Obj := (fun x0 => (.mk .none none (.func (.mk (hq "powered") (hq "powered") (hP (hT 39)) (.stmts (hB (hT 39))) (hS (hT 39)) 0 [] .none .none .none .none none .none .none 0)) #[]))
noncomputable def ho288 : Params → Obj := (fun x0 => (.mk (.type "code") none (.fields #[(.str (hq "powered") 508), (.str (hq "powered") 509), (.str (hq "/claim/cut.py") 510), (.int 208 0), (.int 3 0), (.int 0 0), (.int 0 0), (.int 3 0), (.ref 248), (.bool Bool.true), (.int 181 0), (.ref 249), .none, (.ref 250), (.ref 251), (.ref 252), (.int 514 0), (.int 208 0), (.str (hq "/claim/cut.py") 515)]) #[]))
noncomputable def ho289 : Params → Obj := (fun x0 => (.mk (.type "function") none (.func (.mk (hq "powered") (hq "powered") (hP (hT 39)) (.stmts (hB (hT 39))) (hS (hT 39)) 3 [] .none .none .none (.str (hq "vectorcove.numtext") 355) none (.ref 253) .none 0)) #[]))
noncomputable def ho290 : Params → Obj := (fun x0 => (.mk (.type "tuple") none (.seq #[] 0) #[]))
noncomputable def ho291 : Params → Obj := (fun x0 => (.mk .none none (.fields #[]) #[]))
noncomputable def ho292 : Params → Obj := (fun x0 => (.mk (.type "tuple") none (.seq #[(.str (hq "text") 520), (.str (hq "base") 521), (.str (hq "digits") 522), (.str (hq "mark") 523), (.str (hq "scale") 524), (.str (hq "end") 525), (.str (hq "before") 526), (.str (hq "behind") 527), (.str (hq "start") 528), (.str (hq "e") 529), (.str (hq "ok") 530), (.str (hq "n") 531), (.str (hq "found") 532)] 0) #[]))
noncomputable def ho293 : Params → Obj := (fun x0 => (.mk (.type "tuple") none (.seq #[] 0) #[]))
noncomputable def ho294 : Params → Obj := (fun x0 => (.mk .none none (.func (.mk (hq "unsigned_number") (hq "unsigned_number") (hP (hT 40)) (.stmts (hB (hT 40))) (hS (hT 40)) 0 [] .none .none .none .none none .none .none 0)) #[]))
noncomputable def ho295 : Params → Obj := (fun x0 => (.mk (.type "code") none (.fields #[(.str (hq "unsigned_number") 517), (.str (hq "unsigned_number") 518), (.str (hq "/claim/cut.py") 519), (.int 218 0), (.int 1 0), (.int 0 0), (.int 0 0), (.int 3 0), (.ref 255), (.bool Bool.true), (.int 181 0), (.ref 256), .none, (.ref 257), (.ref 258), (.ref 259), (.int 533 0), (.int 218 0), (.str (hq "/claim/cut.py") 534)]) #[]))
noncomputable def ho296 : Params → Obj := (fun x0 => (.mk (.type "function") none (.func (.mk (hq "unsigned_number") (hq "unsigned_number") (hP (hT 40)) (.stmts (hB (hT 40))) (hS (hT 40)) 3 [] .none .none .none (.str (hq "vectorcove.numtext") 355) none (.ref 260) .none 0)) #[]))
noncomputable def ho299 : Params → Obj := (fun x0 => (.mk (.type "tuple") none (.seq #[] 0) #[]))
noncomputable def ho300 : Params → Obj := (fun x0 => (.mk .none none (.fields #[]) #[]))
noncomputable def ho301 : Params → Obj := (fun x0 => (.mk (.type "tuple") none (.seq #[(.str (hq "text") 539), (.str (hq "body") 540), (.str (hq "negative") 541), (.str (hq "small") 542), (.str (hq "found") 543), (.str (hq "ok") 544)] 0) #[]))
noncomputable def ho302 : Params → Obj := (fun x0 => (.mk (.type "tuple") none (.seq #[] 0) #[]))
noncomputable def ho303 : Params → Obj := (fun x0 => (.mk .none none (.func (.mk (hq "parse_number") (hq "parse_number") (hP (hT 41)) (.stmts (hB (hT 41))) (hS (hT 41)) 0 [] .none .none .none .none none .none .none 0)) #[]))
noncomputable def ho304 : Params → Obj := (fun x0 => (.mk (.type "code") none (.fields #[(.str (hq "parse_number") 536), (.str (hq "parse_number") 537), (.str (hq "/claim/cut.py") 538), (.int 250 0), (.int 1 0), (.int 0 0), (.int 0 0), (.int 3 0), (.ref 262), (.bool Bool.true), (.int 181 0), (.ref 263), .none, (.ref 264), (.ref 265), (.ref 266), (.int 545 0), (.int 250 0), (.str (hq "/claim/cut.py") 546)]) #[]))
noncomputable def ho305 : Params → Obj := (fun x0 => (.mk (.type "function") none (.func (.mk (hq "parse_number") (hq "parse_number") (hP (hT 41)) (.stmts (hB (hT 41))) (hS (hT 41)) 3 [] .none .none .none (.str (hq "vectorcove.numtext") 355) none (.ref 267) .none 0)) #[]))
noncomputable def ho306 : Params → Obj := (fun x0 => (.mk (.type "tuple") none (.seq #[] 0) #[]))
noncomputable def ho307 : Params → Obj := (fun x0 => (.mk (.type "builtin_function_or_method") none (.fields #[(.builtin "type.__prepare__"), (.type "type")]) #[]))
noncomputable def ho308 : Params → Obj := (fun x0 => (.mk (.type "dict") none (.dict #[(.mk (@PySem.PyData.keyHash x0 (hq "__module__")) (.str (hq "__module__") 557) (.str (hq "vectorcove.values") 548)), (.mk (@PySem.PyData.keyHash x0 (hq "__qualname__")) (.str (hq "__qualname__") 559) (.str (hq "Null") 558)), (.mk (@PySem.PyData.keyHash x0 (hq "__firstlineno__")) (.str (hq "__firstlineno__") 561) (.int 268 560)), (.mk (@PySem.PyData.keyHash x0 (hq "__init__")) (.str (hq "__init__") 568) (.ref 282)), (.mk (@PySem.PyData.keyHash x0 (hq "__static_attributes__")) (.str (hq "__static_attributes__") 571) (.ref 283))] 5) #[]))
noncomputable def ho309 : Params → Obj := (fun x0 => (.mk (.type "tuple") none (.seq #[] 0) #[]))
noncomputable def ho310 : Params → Obj := (fun x0 => (.mk .none none (.fields #[(.int 270 0), (.int 4 0), (.ref 281)]) #[]))
noncomputable def ho311 : Params → Obj := (fun x0 => (.mk (.type "code") none (.fields #[(.str (hq "Null") 552), (.str (hq "Null") 553), (.str (hq "/claim/cut.py") 554), (.int 268 0), (.int 0 0), (.int 0 0), (.int 0 0), (.int 0 0), (.ref 272), (.bool Bool.false), (.int 181 0), (.ref 273), .none, .none, .none, .none, (.int 555 0), (.int 268 0), (.str (hq "/claim/cut.py") 556)]) #[]))
noncomputable def ho312 : Params → Obj := (fun x0 => (.mk (.type "frame") none PySem.Data.plain #[(some (.ref 274)), (some (.ref 3)), (some (.ref 271)), none, (some (.str (hq "vectorcove.values") 548)), none, (some (.ref 0))]))
noncomputable def ho313 : Params → Obj := (fun x0 => (.mk (.type "tuple") none (.seq #[] 0) #[]))
noncomputable def ho314 : Params → Obj := (fun x0 => (.mk .none none (.fields #[]) #[]))
noncomputable def ho315 : Params → Obj := (fun x0 => (.mk (.type "tuple") none (.seq #[(.str (hq "self") 565)] 0) #[]))
noncomputable def ho316 : Params → Obj := (fun x0 => (.mk (.type "tuple") none (.seq #[] 0) #[]))
noncomputable def ho317 : Params → Obj := (fun x0 => (.mk .none none (.func (.mk (hq "__init__") (hq "Null.__init__") (hP (hN (hC (hT 43)).1 0)) (.stmts (hB (hN (hC (hT 43)).1 0))) (hS (hN (hC (hT 43)).1 0)) 0 [] .none .none .none .none none .none .none 0)) #[]))
noncomputable def ho318 : Params → Obj := (fun x0 => (.mk (.type "code") none (.fields #[(.str (hq "__init__") 562), (.str (hq "Null.__init__") 563), (.str (hq "/claim/cut.py") 564), (.int 270 0), (.int 1 0), (.int 0 0), (.int 0 0), (.int 3 0), (.ref 276), (.bool Bool.true), (.int 181 0), (.ref 277), .none, (.ref 278), (.ref 279), (.ref 280), (.int 566 0), (.int 270 0), (.str (hq "/claim/cut.py") 567)]) #[]))
noncomputable def ho319 : Params → Obj := (fun x0 => (.mk (.type "function") none (.func (.mk (hq "__init__") (hq "Null.__init__") (hP (hN (hC (hT 43)).1 0)) (.stmts (hB (hN (hC (hT 43)).1 0))) (hS (hN (hC (hT 43)).1 0)) 3 [] .none .none .none (.str (hq "vectorcove.values") 548) none (.ref 281) .none 0)) #[]))
noncomputable def ho320 : Params → Obj := (fun x0 => (.mk (.type "tuple") none (.seq #[(.str (hq "attrs") 569), (.str (hq "kind") 570)] 0) #[]))
noncomputable def ho321 : Params → Obj := (fun x0 => (.mk (.type "dict") none (.dict #[(.mk (@PySem.PyData.keyHash x0 (hq "__module__")) (.str (hq "__module__") 557) (.str (hq "vectorcove.values") 548)), (.mk (@PySem.PyData.keyHash x0 (hq "__firstlineno__")) (.str (hq "__firstlineno__") 561) (.int 268 560)), (.mk (@PySem.PyData.keyHash x0 (hq "__init__")) (.str (hq "__init__") 568) (.ref 282)), (.mk (@PySem.PyData.keyHash x0 (hq "__static_attributes__")) (.str (hq "__static_attributes__") 571) (.ref 283)), (.mk (@PySem.PyData.keyHash x0 (hq "__dict__")) (.str (hq "__dict__") 573) (.ref 286)), (.mk (@PySem.PyData.keyHash x0 (hq "__weakref__")) (.str (hq "__weakref__") 575) (.ref 287)), (.mk (@PySem.PyData.keyHash x0 (hq "__doc__")) (.str (hq "__doc__") 576) .none)] 4) #[]))
noncomputable def ho322 : Params → Obj := (fun x0 => (.mk (.type "type") none (.cls (.mk (hq "Null") [(.type "object")] [(.ref 285), (.type "object")] 284 (hq "Null") Bool.true [] [] Bool.false none Bool.false)) #[none, none, (some (.str (hq "Null") 550)), (some (.str (hq "Null") 558)), (some (.builtin "object.__new__")), (some (.bool Bool.true))]))
noncomputable def ho323 : Params → Obj := (fun x0 => (.mk (.type "getset_descriptor") none (.fields #[(.str (hq "__dict__") 572), (.ref 285), (.builtin "function.__dict__"), (.builtin "function.__dict__#set")]) #[]))
noncomputable def ho324 : Params → Obj := (fun x0 => (.mk (.type "getset_descriptor") none (.fields #[(.str (hq "__weakref__") 574), (.ref 285), (.builtin "ExceptionGroup.__weakref__"), .none]) #[]))
noncomputable def ho325 : Params → Obj := (fun x0 => (.mk (.type "super") none (.fields #[(.ref 285), (.ref 285), (.ref 285)]) #[]))
noncomputable def ho326 : Params → Obj := (fun x0 => (.mk (.type "builtin_function_or_method") none (.fields #[(.builtin "object.__init_subclass__"), (.ref 285)]) #[]))
noncomputable def ho327 : Params → Obj := (fun x0 => (.mk (.type "tuple") none (.seq #[] 0) #[]))
noncomputable def ho328 : Params → Obj := (fun x0 => (.mk (.type "builtin_function_or_method") none (.fields #[(.builtin "type.__prepare__"), (.type "type")]) #[]))
noncomputable def ho329 : Params → Obj := (fun x0 => (.mk (.type "dict") none (.dict #[(.mk (@PySem.PyData.keyHash x0 (hq "__module__")) (.str (hq "__module__") 586) (.str (hq "vectorcove.values") 548)), (.mk (@PySem.PyData.keyHash x0 (hq "__qualname__")) (.str (hq "__qualname__") 588) (.str (hq "Vector") 587)), (.mk (@PySem.PyData.keyHash x0 (hq "__firstlineno__")) (.str (hq "__firstlineno__") 590) (.int 273 589)), (.mk (@PySem.PyData.keyHash x0 (hq "__init__")) (.str (hq "__init__") 600) (.ref 304)), (.mk (@PySem.PyData.keyHash x0 (hq "copy")) (.str (hq "copy") 607) (.ref 311)), (.mk (@PySem.PyData.keyHash x0 (hq "__static_attributes__")) (.str (hq "__static_attributes__") 613) (.ref 312))] 6) #[]))
noncomputable def ho330 : Params → Obj := (fun x0 => (.mk (.type "tuple") none (.seq #[] 0) #[]))
noncomputable def ho331 : Params → Obj := (fun x0 => (.mk .none none (.fields #[(.int 275 0), (.int 4 0), (.ref 303), (.int 282 0), (.int 4 0), (.ref 310)]) #[]))
noncomputable def ho332 : Params → Obj := (fun x0 => (.mk (.type "code") none (.fields #[(.str (hq "Vector") 581), (.str (hq "Vector") 582), (.str (hq "/claim/cut.py") 583), (.int 273 0), (.int 0 0), (.int 0 0), (.int 0 0), (.int 0 0), (.ref 293), (.bool Bool.false), (.int 181 0), (.ref 294), .none, .none, .none, .none, (.int 584 0), (.int 273 0), (.str (hq "/claim/cut.py") 585)]) #[]))
noncomputable def ho333 : Params → Obj := (fun x0 => (.mk (.type "frame") none PySem.Data.plain #[(some (.ref 295)), (some (.ref 3)), (some (.ref 292)), none, (some (.str (hq "vectorcove.values") 548)), none, (some (.ref 0))]))
noncomputable def ho334 : Params → Obj := (fun x0 => (.mk (.type "tuple") none (.seq #[.none] 0) #[]))
noncomputable def ho335 : Params → Obj := (fun x0 => (.mk (.type "tuple") none (.seq #[] 0) #[]))
noncomputable def ho336 : Params → Obj := (fun x0 => (.mk .none none (.fields #[]) #[]))
noncomputable def ho337 : Params → Obj := (fun x0 => (.mk (.type "tuple") none (.seq #[(.str (hq "self") 594), (.str (hq "kind") 595), (.str (hq "items") 596), (.str (hq "attrs") 597)] 0) #[]))
noncomputable def ho338 : Params → Obj := (fun x0 => (.mk (.type "tuple") none (.seq #[] 0) #[]))
noncomputable def ho339 : Params → Obj := (fun x0 => (.mk .none none (.func (.mk (hq "__init__") (hq "Vector.__init__") (hP (hN (hC (hT 44)).1 0)) (.stmts (hB (hN (hC (hT 44)).1 0))) (hS (hN (hC (hT 44)).1 0)) 0 [] .none .none .none .none none .none .none 0)) #[]))
noncomputable def ho340 : Params → Obj := (fun x0 => (.mk (.type "code") none (.fields #[(.str (hq "__init__") 591), (.str (hq "Vector.__init__") 592), (.str (hq "/claim/cut.py") 593), (.int 275 0), (.int 4 0), (.int 0 0), (.int 0 0), (.int 3 0), (.ref 298), (.bool Bool.true), (.int 181 0), (.ref 299), .none, (.ref 300), (.ref 301), (.ref 302), (.int 598 0), (.int 275 0), (.str (hq "/claim/cut.py") 599)]) #[]))
noncomputable def ho341 : Params → Obj := (fun x0 => (.mk (.type "function") none (.func (.mk (hq "__init__") (hq "Vector.__init__") (hP (hN (hC (hT 44)).1 0)) (.stmts (hB (hN (hC (hT 44)).1 0))) (hS (hN (hC (hT 44)).1 0)) 3 [] (.ref 297) .none .none (.str (hq "vectorcove.values") 548) none (.ref 303) .none 0)) #[]))
noncomputable def ho342 : Params → Obj := (fun x0 => (.mk (.type "tuple") none (.seq #[] 0) #[]))
noncomputable def ho343 : Params → Obj := (fun x0 => (.mk .none none (.fields #[]) #[]))
noncomputable def ho344 : Params → Obj := (fun x0 => (.mk (.type "tuple") none (.seq #[(.str (hq "self") 604)] 0) #[]))
noncomputable def ho345 : Params → Obj := (fun x0 => (.mk (.type "tuple") none (.seq #[] 0) #[]))
noncomputable def ho346 : Params → Obj := (fun x0 => (.mk .none none (.func (.mk (hq "copy") (hq "Vector.copy") (hP (hN (hC (hT 44)).1 1)) (.stmts (hB (hN (hC (hT 44)).1 1))) (hS (hN (hC (hT 44)).1 1)) 0 [] .none .none .none .none none .none .none 0)) #[]))
noncomputable def ho347 : Params → Obj := (fun x0 => (.mk (.type "code") none (.fields #[(.str (hq "copy") 601), (.str (hq "Vector.copy") 602), (.str (hq "/claim/cut.py") 603), (.int 282 0), (.int 1 0), (.int 0 0), (.int 0 0), (.int 3 0), (.ref 305), (.bool Bool.true), (.int 181 0), (.ref 306), .none, (.ref 307), (.ref 308), (.ref 309), (.int 605 0), (.int 282 0), (.str (hq "/claim/cut.py") 606)]) #[]))
noncomputable def ho348 : Params → Obj := (fun x0 => (.mk (.type "function") none (.func (.mk (hq "copy") (hq "Vector.copy") (hP (hN (hC (hT 44)).1 1)) (.stmts (hB (hN (hC (hT 44)).1 1))) (hS (hN (hC (hT 44)).1 1)) 3 [] .none .none .none (.str (hq "vectorcove.values") 548) none (.ref 310) .none 0)) #[]))
noncomputable def ho349 : Params → Obj := (fun x0 => (.mk (.type "tuple") none (.seq #[(.str (hq "attrs") 608), (.str (hq "items") 609), (.str (hq "kind") 610), (.str (hq "loose") 611), (.str (hq "shared") 612)] 0) #[]))
noncomputable def ho350 : Params → Obj := (fun x0 => (.mk (.type "dict") none (.dict #[(.mk (@PySem.PyData.keyHash x0 (hq "__module__")) (.str (hq "__module__") 586) (.str (hq "vectorcove.values") 548)), (.mk (@PySem.PyData.keyHash x0 (hq "__firstlineno__")) (.str (hq "__firstlineno__") 590) (.int 273 589)), (.mk (@PySem.PyData.keyHash x0 (hq "__init__")) (.str (hq "__init__") 600) (.ref 304)), (.mk (@PySem.PyData.keyHash x0 (hq "copy")) (.str (hq "copy") 607) (.ref 311)), (.mk (@PySem.PyData.keyHash x0 (hq "__static_attributes__")) (.str (hq "__static_attributes__") 613) (.ref 312)), (.mk (@PySem.PyData.keyHash x0 (hq "__dict__")) (.str (hq "__dict__") 615) (.ref 315)), (.mk (@PySem.PyData.keyHash x0 (hq "__weakref__")) (.str (hq "__weakref__") 617) (.ref 316)), (.mk (@PySem.PyData.keyHash x0 (hq "__doc__")) (.str (hq "__doc__") 618) .none)] 4) #[]))
noncomputable def ho351 : Params → Obj := (fun x0 => (.mk (.type "type") none (.cls (.mk (hq "Vector") [(.type "object")] [(.ref 314), (.type "object")] 313 (hq "Vector") Bool.true [] [] Bool.false none Bool.false)) #[none, none, (some (.str (hq "Vector") 579)), (some (.str (hq "Vector") 587)), (some (.builtin "object.__new__")), (some (.bool Bool.true))]))
noncomputable def ho352 : Params → Obj := (fun x0 => (.mk (.type "getset_descriptor") none (.fields #[(.str (hq "__dict__") 614), (.ref 314), (.builtin "function.__dict__"), (.builtin "function.__dict__#set")]) #[]))
noncomputable def ho353 : Params → Obj := (fun x0 => (.mk (.type "getset_descriptor") none (.fields #[(.str (hq "__weakref__") 616), (.ref 314), (.builtin "ExceptionGroup.__weakref__"), .none]) #[]))
noncomputable def ho354 : Params → Obj := (fun x0 => (.mk (.type "super") none (.fields #[(.ref 314), (.ref 314), (.ref 314)]) #[]))
noncomputable def ho355 : Params → Obj := (fun x0 => (.mk (.type "builtin_function_or_method") none (.fields #[(.builtin "object.__init_subclass__"), (.ref 314)]) #[]))
noncomputable def ho356 : Params → Obj := (fun x0 => (.mk (.type "tuple") none (.seq #[] 0) #[]))
noncomputable def ho357 : Params → Obj := (fun x0 => (.mk (.type "builtin_function_or_method") none (.fields #[(.builtin "type.__prepare__"), (.type "type")]) #[]))
noncomputable def ho358 : Params → Obj := (fun x0 => (.mk (.type "dict") none (.dict #[(.mk (@PySem.PyData.keyHash x0 (hq "__module__")) (.str (hq "__module__") 628) (.str (hq "vectorcove.values") 548)), (.mk (@PySem.PyData.keyHash x0 (hq "__qualname__")) (.str (hq "__qualname__") 630) (.str (hq "Symbol") 629)), (.mk (@PySem.PyData.keyHash x0 (hq "__firstlineno__")) (.str (hq "__firstlineno__") 632) (.int 284 631)), (.mk (@PySem.PyData.keyHash x0 (hq "__init__")) (.str (hq "__init__") 640) (.ref 332)), (.mk (@PySem.PyData.keyHash x0 (hq "__static_attributes__")) (.str (hq "__static_attributes__") 644) (.ref 333))] 5) #[]))
noncomputable def ho359 : Params → Obj := (fun x0 => (.mk (.type "tuple") none (.seq #[] 0) #[]))
noncomputable def ho360 : Params → Obj := (fun x0 => (.mk .none none (.fields #[(.int 286 0), (.int 4 0), (.ref 331)]) #[]))
noncomputable def ho361 : Params → Obj := (fun x0 => (.mk (.type "code") none (.fields #[(.str (hq "Symbol") 623), (.str (hq "Symbol") 624), (.str (hq "/claim/cut.py") 625), (.int 284 0), (.int 0 0), (.int 0 0), (.int 0 0), (.int 0 0), (.ref 322), (.bool Bool.false), (.int 181 0), (.ref 323), .none, .none, .none, .none, (.int 626 0), (.int 284 0), (.str (hq "/claim/cut.py") 627)]) #[]))
noncomputable def ho362 : Params → Obj := (fun x0 => (.mk (.type "frame") none PySem.Data.plain #[(some (.ref 324)), (some (.ref 3)), (some (.ref 321)), none, (some (.str (hq "vectorcove.values") 548)), none, (some (.ref 0))]))
noncomputable def ho363 : Params → Obj := (fun x0 => (.mk (.type "tuple") none (.seq #[] 0) #[]))
noncomputable def ho364 : Params → Obj := (fun x0 => (.mk .none none (.fields #[]) #[]))
noncomputable def ho365 : Params → Obj := (fun x0 => (.mk (.type "tuple") none (.seq #[(.str (hq "self") 636), (.str (hq "name") 637)] 0) #[]))
noncomputable def ho366 : Params → Obj := (fun x0 => (.mk (.type "tuple") none (.seq #[] 0) #[]))
noncomputable def ho367 : Params → Obj := (fun x0 => (.mk .none none (.func (.mk (hq "__init__") (hq "Symbol.__init__") (hP (hN (hC (hT 45)).1 0)) (.stmts (hB (hN (hC (hT 45)).1 0))) (hS (hN (hC (hT 45)).1 0)) 0 [] .none .none .none .none none .none .none 0)) #[]))
noncomputable def ho368 : Params → Obj := (fun x0 => (.mk (.type "code") none (.fields #[(.str (hq "__init__") 633), (.str (hq "Symbol.__init__") 634), (.str (hq "/claim/cut.py") 635), (.int 286 0), (.int 2 0), (.int 0 0), (.int 0 0), (.int 3 0), (.ref 326), (.bool Bool.true), (.int 181 0), (.ref 327), .none, (.ref 328), (.ref 329), (.ref 330), (.int 638 0), (.int 286 0), (.str (hq "/claim/cut.py") 639)]) #[]))
noncomputable def ho369 : Params → Obj := (fun x0 => (.mk (.type "function") none (.func (.mk (hq "__init__") (hq "Symbol.__init__") (hP (hN (hC (hT 45)).1 0)) (.stmts (hB (hN (hC (hT 45)).1 0))) (hS (hN (hC (hT 45)).1 0)) 3 [] .none .none .none (.str (hq "vectorcove.values") 548) none (.ref 331) .none 0)) #[]))
noncomputable def ho370 : Params → Obj := (fun x0 => (.mk (.type "tuple") none (.seq #[(.str (hq "attrs") 641), (.str (hq "kind") 642), (.str (hq "name") 643)] 0) #[]))
noncomputable def ho371 : Params → Obj := (fun x0 => (.mk (.type "dict") none (.dict #[(.mk (@PySem.PyData.keyHash x0 (hq "__module__")) (.str (hq "__module__") 628) (.str (hq "vectorcove.values") 548)), (.mk (@PySem.PyData.keyHash x0 (hq "__firstlineno__")) (.str (hq "__firstlineno__") 632) (.int 284 631)), (.mk (@PySem.PyData.keyHash x0 (hq "__init__")) (.str (hq "__init__") 640) (.ref 332)), (.mk (@PySem.PyData.keyHash x0 (hq "__static_attributes__")) (.str (hq "__static_attributes__") 644) (.ref 333)), (.mk (@PySem.PyData.keyHash x0 (hq "__dict__")) (.str (hq "__dict__") 646) (.ref 336)), (.mk (@PySem.PyData.keyHash x0 (hq "__weakref__")) (.str (hq "__weakref__") 648) (.ref 337)), (.mk (@PySem.PyData.keyHash x0 (hq "__doc__")) (.str (hq "__doc__") 649) .none)] 4) #[]))
noncomputable def ho372 : Params → Obj := (fun x0 => (.mk (.type "type") none (.cls (.mk (hq "Symbol") [(.type "object")] [(.ref 335), (.type "object")] 334 (hq "Symbol") Bool.true [] [] Bool.false none Bool.false)) #[none, none, (some (.str (hq "Symbol") 621)), (some (.str (hq "Symbol") 629)), (some (.builtin "object.__new__")), (some (.bool Bool.true))]))
noncomputable def ho373 : Params → Obj := (fun x0 => (.mk (.type "getset_descriptor") none (.fields #[(.str (hq "__dict__") 645), (.ref 335), (.builtin "function.__dict__"), (.builtin "function.__dict__#set")]) #[]))
noncomputable def ho374 : Params → Obj := (fun x0 => (.mk (.type "getset_descriptor") none (.fields #[(.str (hq "__weakref__") 647), (.ref 335), (.builtin "ExceptionGroup.__weakref__"), .none]) #[]))
noncomputable def ho375 : Params → Obj := (fun x0 => (.mk (.type "super") none (.fields #[(.ref 335), (.ref 335), (.ref 335)]) #[]))
noncomputable def ho376 : Params → Obj := (fun x0 => (.mk (.type "builtin_function_or_method") none (.fields #[(.builtin "object.__init_subclass__"), (.ref 335)]) #[]))
noncomputable def ho377 : Params → Obj := (fun x0 => (.mk (.type "tuple") none (.seq #[] 0) #[]))
noncomputable def ho378 : Params → Obj := (fun x0 => (.mk (.type "builtin_function_or_method") none (.fields #[(.builtin "type.__prepare__"), (.type "type")]) #[]))
noncomputable def ho379 : Params → Obj := (fun x0 => (.mk (.type "dict") none (.dict #[(.mk (@PySem.PyData.keyHash x0 (hq "__module__")) (.str (hq "__module__") 659) (.str (hq "vectorcove.values") 548)), (.mk (@PySem.PyData.keyHash x0 (hq "__qualname__")) (.str (hq "__qualname__") 661) (.str (hq "Call") 660)), (.mk (@PySem.PyData.keyHash x0 (hq "__firstlineno__")) (.str (hq "__firstlineno__") 663) (.int 290 662)), (.mk (@PySem.PyData.keyHash x0 (hq "__init__")) (.str (hq "__init__") 673) (.ref 354)), (.mk (@PySem.PyData.keyHash x0 (hq "__static_attributes__")) (.str (hq "__static_attributes__") 679) (.ref 355))] 5) #[]))
noncomputable def ho380 : Params → Obj := (fun x0 => (.mk (.type "tuple") none (.seq #[] 0) #[]))
noncomputable def ho381 : Params → Obj := (fun x0 => (.mk .none none (.fields #[(.int 292 0), (.int 4 0), (.ref 353)]) #[]))
noncomputable def ho382 : Params → Obj := (fun x0 => (.mk (.type "code") none (.fields #[(.str (hq "Call") 654), (.str (hq "Call") 655), (.str (hq "/claim/cut.py") 656), (.int 290 0), (.int 0 0), (.int 0 0), (.int 0 0), (.int 0 0), (.ref 343), (.bool Bool.false), (.int 181 0), (.ref 344), .none, .none, .none, .none, (.int 657 0), (.int 290 0), (.str (hq "/claim/cut.py") 658)]) #[]))
noncomputable def ho383 : Params → Obj := (fun x0 => (.mk (.type "frame") none PySem.Data.plain #[(some (.ref 345)), (some (.ref 3)), (some (.ref 342)), none, (some (.str (hq "vectorcove.values") 548)), none, (some (.ref 0))]))
noncomputable def ho384 : Params → Obj := (fun x0 => (.mk (.type "tuple") none (.seq #[.none] 0) #[]))
noncomputable def ho385 : Params → Obj := (fun x0 => (.mk (.type "tuple") none (.seq #[] 0) #[]))
noncomputable def ho386 : Params → Obj := (fun x0 => (.mk .none none (.fields #[]) #[]))
noncomputable def ho387 : Params → Obj := (fun x0 => (.mk (.type "tuple") none (.seq #[(.str (hq "self") 667), (.str (hq "items") 668), (.str (hq "tags") 669), (.str (hq "attrs") 670)] 0) #[]))
noncomputable def ho388 : Params → Obj := (fun x0 => (.mk (.type "tuple") none (.seq #[] 0) #[]))
noncomputable def ho389 : Params → Obj := (fun x0 => (.mk .none none (.func (.mk (hq "__init__") (hq "Call.__init__") (hP (hN (hC (hT 46)).1 0)) (.stmts (hB (hN (hC (hT 46)).1 0))) (hS (hN (hC (hT 46)).1 0)) 0 [] .none .none .none .none none .none .none 0)) #[]))
noncomputable def ho390 : Params → Obj := (fun x0 => (.mk (.type "code") none (.fields #[(.str (hq "__init__") 664), (.str (hq "Call.__init__") 665), (.str (hq "/claim/cut.py") 666), (.int 292 0), (.int 4 0), (.int 0 0), (.int 0 0), (.int 3 0), (.ref 348), (.bool Bool.true), (.int 181 0), (.ref 349), .none, (.ref 350), (.ref 351), (.ref 352), (.int 671 0), (.int 292 0), (.str (hq "/claim/cut.py") 672)]) #[]))
noncomputable def ho391 : Params → Obj := (fun x0 => (.mk (.type "function") none (.func (.mk (hq "__init__") (hq "Call.__init__") (hP (hN (hC (hT 46)).1 0)) (.stmts (hB (hN (hC (hT 46)).1 0))) (hS (hN (hC (hT 46)).1 0)) 3 [] (.ref 347) .none .none (.str (hq "vectorcove.values") 548) none (.ref 353) .none 0)) #[]))
noncomputable def ho392 : Params → Obj := (fun x0 => (.mk (.type "tuple") none (.seq #[(.str (hq "attrs") 674), (.str (hq "code") 675), (.str (hq "items") 676), (.str (hq "kind") 677), (.str (hq "tags") 678)] 0) #[]))
noncomputable def ho393 : Params → Obj := (fun x0 => (.mk (.type "dict") none (.dict #[(.mk (@PySem.PyData.keyHash x0 (hq "__module__")) (.str (hq "__module__") 659) (.str (hq "vectorcove.values") 548)), (.mk (@PySem.PyData.keyHash x0 (hq "__firstlineno__")) (.str (hq "__firstlineno__") 663) (.int 290 662)), (.mk (@PySem.PyData.keyHash x0 (hq "__init__")) (.str (hq "__init__") 673) (.ref 354)), (.mk (@PySem.PyData.keyHash x0 (hq "__static_attributes__")) (.str (hq "__static_attributes__") 679) (.ref 355)), (.mk (@PySem.PyData.keyHash x0 (hq "__dict__")) (.str (hq "__dict__") 681) (.ref 358)), (.mk (@PySem.PyData.keyHash x0 (hq "__weakref__")) (.str (hq "__weakref__") 683) (.ref 359)), (.mk (@PySem.PyData.keyHash x0 (hq "__doc__")) (.str (hq "__doc__") 684) .none)] 4) #[]))
noncomputable def ho394 : Params → Obj := (fun x0 => (.mk (.type "type") none (.cls (.mk (hq "Call") [(.type "object")] [(.ref 357), (.type "object")] 356 (hq "Call") Bool.true [] [] Bool.false none Bool.false)) #[none, none, (some (.str (hq "Call") 652)), (some (.str (hq "Call") 660)), (some (.builtin "object.__new__")), (some (.bool Bool.true))]))
noncomputable def ho395 : Params → Obj := (fun x0 => (.mk (.type "getset_descriptor") none (.fields #[(.str (hq "__dict__") 680), (.ref 357), (.builtin "function.__dict__"), (.builtin "function.__dict__#set")]) #[]))
noncomputable def ho396 : Params → Obj := (fun x0 => (.mk (.type "getset_descriptor") none (.fields #[(.str (hq "__weakref__") 682), (.ref 357), (.builtin "ExceptionGroup.__weakref__"), .none]) #[]))
noncomputable def ho397 : Params → Obj := (fun x0 => (.mk (.type "super") none (.fields #[(.ref 357), (.ref 357), (.ref 357)]) #[]))
noncomputable def ho398 : Params → Obj := (fun x0 => (.mk (.type "builtin_function_or_method") none (.fields #[(.builtin "object.__init_subclass__"), (.ref 357)]) #[]))
noncomputable def ho399 : Params → Obj := (fun x0 => (.mk (.type "tuple") none (.seq #[] 0) #[]))
noncomputable def ho400 : Params → Obj := (fun x0 => (.mk (.type "builtin_function_or_method") none (.fields #[(.builtin "type.__prepare__"), (.type "type")]) #[]))
noncomputable def ho401 : Params → Obj := (fun x0 => (.mk (.type "dict") none (.dict #[(.mk (@PySem.PyData.keyHash x0 (hq "__module__")) (.str (hq "__module__") 694) (.str (hq "vectorcove.values") 548)), (.mk (@PySem.PyData.keyHash x0 (hq "__qualname__")) (.str (hq "__qualname__") 696) (.str (hq "Closure") 695)), (.mk (@PySem.PyData.keyHash x0 (hq "__firstlineno__")) (.str (hq "__firstlineno__") 698) (.int 298 697)), (.mk (@PySem.PyData.keyHash x0 (hq "__init__")) (.str (hq "__init__") 709) (.ref 376)), (.mk (@PySem.PyData.keyHash x0 (hq "__static_attributes__")) (.str (hq "__static_attributes__") 715) (.ref 377))] 5) #[]))
noncomputable def ho402 : Params → Obj := (fun x0 => (.mk (.type "tuple") none (.seq #[] 0) #[]))
noncomputable def ho403 : Params → Obj := (fun x0 => (.mk .none none (.fields #[(.int 300 0), (.int 4 0), (.ref 375)]) #[]))
noncomputable def ho404 : Params → Obj := (fun x0 => (.mk (.type "code") none (.fields #[(.str (hq "Closure") 689), (.str (hq "Closure") 690), (.str (hq "/claim/cut.py") 691), (.int 298 0), (.int 0 0), (.int 0 0), (.int 0 0), (.int 0 0), (.ref 365), (.bool Bool.false), (.int 181 0), (.ref 366), .none, .none, .none, .none, (.int 692 0), (.int 298 0), (.str (hq "/claim/cut.py") 693)]) #[]))
noncomputable def ho405 : Params → Obj := (fun x0 => (.mk (.type "frame") none PySem.Data.plain #[(some (.ref 367)), (some (.ref 3)), (some (.ref 364)), none, (some (.str (hq "vectorcove.values") 548)), none, (some (.ref 0))]))
noncomputable def ho406 : Params → Obj := (fun x0 => (.mk (.type "tuple") none (.seq #[.none] 0) #[]))
noncomputable def ho407 : Params → Obj := (fun x0 => (.mk (.type "tuple") none (.seq #[] 0) #[]))
noncomputable def ho408 : Params → Obj := (fun x0 => (.mk .none none (.fields #[]) #[]))
noncomputable def ho409 : Params → Obj := (fun x0 => (.mk (.type "tuple") none (.seq #[(.str (hq "self") 702), (.str (hq "formals") 703), (.str (hq "body") 704), (.str (hq "env") 705), (.str (hq "attrs") 706)] 0) #[]))
noncomputable def ho410 : Params → Obj := (fun x0 => (.mk (.type "tuple") none (.seq #[] 0) #[]))
noncomputable def ho411 : Params → Obj := (fun x0 => (.mk .none none (.func (.mk (hq "__init__") (hq "Closure.__init__") (hP (hN (hC (hT 47)).1 0)) (.stmts (hB (hN (hC (hT 47)).1 0))) (hS (hN (hC (hT 47)).1 0)) 0 [] .none .none .none .none none .none .none 0)) #[]))
noncomputable def ho412 : Params → Obj := (fun x0 => (.mk (.type "code") none (.fields #[(.str (hq "__init__") 699), (.str (hq "Closure.__init__") 700), (.str (hq "/claim/cut.py") 701), (.int 300 0), (.int 5 0), (.int 0 0), (.int 0 0), (.int 3 0), (.ref 370), (.bool Bool.true), (.int 181 0), (.ref 371), .none, (.ref 372), (.ref 373), (.ref 374), (.int 707 0), (.int 300 0), (.str (hq "/claim/cut.py") 708)]) #[]))
noncomputable def ho413 : Params → Obj := (fun x0 => (.mk (.type "function") none (.func (.mk (hq "__init__") (hq "Closure.__init__") (hP (hN (hC (hT 47)).1 0)) (.stmts (hB (hN (hC (hT 47)).1 0))) (hS (hN (hC (hT 47)).1 0)) 3 [] (.ref 369) .none .none (.str (hq "vectorcove.values") 548) none (.ref 375) .none 0)) #[]))
noncomputable def ho414 : Params → Obj := (fun x0 => (.mk (.type "tuple") none (.seq #[(.str (hq "attrs") 710), (.str (hq "body") 711), (.str (hq "env") 712), (.str (hq "formals") 713), (.str (hq "kind") 714)] 0) #[]))
noncomputable def ho415 : Params → Obj := (fun x0 => (.mk (.type "dict") none (.dict #[(.mk (@PySem.PyData.keyHash x0 (hq "__module__")) (.str (hq "__module__") 694) (.str (hq "vectorcove.values") 548)), (.mk (@PySem.PyData.keyHash x0 (hq "__firstlineno__")) (.str (hq "__firstlineno__") 698) (.int 298 697)), (.mk (@PySem.PyData.keyHash x0 (hq "__init__")) (.str (hq "__init__") 709) (.ref 376)), (.mk (@PySem.PyData.keyHash x0 (hq "__static_attributes__")) (.str (hq "__static_attributes__") 715) (.ref 377)), (.mk (@PySem.PyData.keyHash x0 (hq "__dict__")) (.str (hq "__dict__") 717) (.ref 380)), (.mk (@PySem.PyData.keyHash x0 (hq "__weakref__")) (.str (hq "__weakref__") 719) (.ref 381)), (.mk (@PySem.PyData.keyHash x0 (hq "__doc__")) (.str (hq "__doc__") 720) .none)] 4) #[]))
noncomputable def ho416 : Params → Obj := (fun x0 => (.mk (.type "type") none (.cls (.mk (hq "Closure") [(.type "object")] [(.ref 379), (.type "object")] 378 (hq "Closure") Bool.true [] [] Bool.false none Bool.false)) #[none, none, (some (.str (hq "Closure") 687)), (some (.str (hq "Closure") 695)), (some (.builtin "object.__new__")), (some (.bool Bool.true))]))
noncomputable def ho417 : Params → Obj := (fun x0 => (.mk (.type "getset_descriptor") none (.fields #[(.str (hq "__dict__") 716), (.ref 379), (.builtin "function.__dict__"), (.builtin "function.__dict__#set")]) #[]))
noncomputable def ho418 : Params → Obj := (fun x0 => (.mk (.type "getset_descriptor") none (.fields #[(.str (hq "__weakref__") 718), (.ref 379), (.builtin "ExceptionGroup.__weakref__"), .none]) #[]))
noncomputable def ho419 : Params → Obj := (fun x0 => (.mk (.type "super") none (.fields #[(.ref 379), (.ref 379), (.ref 379)]) #[]))
noncomputable def ho420 : Params → Obj := (fun x0 => (.mk (.type "builtin_function_or_method") none (.fields #[(.builtin "object.__init_subclass__"), (.ref 379)]) #[]))
noncomputable def ho421 : Params → Obj := (fun x0 => (.mk (.type "tuple") none (.seq #[] 0) #[]))
noncomputable def ho422 : Params → Obj := (fun x0 => (.mk (.type "builtin_function_or_method") none (.fields #[(.builtin "type.__prepare__"), (.type "type")]) #[]))
noncomputable def ho423 : Params → Obj := (fun x0 => (.mk (.type "dict") none (.dict #[(.mk (@PySem.PyData.keyHash x0 (hq "__module__")) (.str (hq "__module__") 730) (.str (hq "vectorcove.values") 548)), (.mk (@PySem.PyData.keyHash x0 (hq "__qualname__")) (.str (hq "__qualname__") 732) (.str (hq "Environment") 731)), (.mk (@PySem.PyData.keyHash x0 (hq "__firstlineno__")) (.str (hq "__firstlineno__") 734) (.int 306 733)), (.mk (@PySem.PyData.keyHash x0 (hq "__init__")) (.str (hq "__init__") 744) (.ref 398)), (.mk (@PySem.PyData.keyHash x0 (hq "__static_attributes__")) (.str (hq "__static_attributes__") 752) (.ref 399))] 5) #[]))
noncomputable def ho424 : Params → Obj := (fun x0 => (.mk (.type "tuple") none (.seq #[] 0) #[]))
noncomputable def ho425 : Params → Obj := (fun x0 => (.mk .none none (.fields #[(.int 308 0), (.int 4 0), (.ref 397)]) #[]))
noncomputable def ho426 : Params → Obj := (fun x0 => (.mk (.type "code") none (.fields #[(.str (hq "Environment") 725), (.str (hq "Environment") 726), (.str (hq "/claim/cut.py") 727), (.int 306 0), (.int 0 0), (.int 0 0), (.int 0 0), (.int 0 0), (.ref 387), (.bool Bool.false), (.int 181 0), (.ref 388), .none, .none, .none, .none, (.int 728 0), (.int 306 0), (.str (hq "/claim/cut.py") 729)]) #[]))
noncomputable def ho427 : Params → Obj := (fun x0 => (.mk (.type "frame") none PySem.Data.plain #[(some (.ref 389)), (some (.ref 3)), (some (.ref 386)), none, (some (.str (hq "vectorcove.values") 548)), none, (some (.ref 0))]))
noncomputable def ho428 : Params → Obj := (fun x0 => (.mk (.type "tuple") none (.seq #[.none] 0) #[]))
noncomputable def ho429 : Params → Obj := (fun x0 => (.mk (.type "tuple") none (.seq #[] 0) #[]))
noncomputable def ho430 : Params → Obj := (fun x0 => (.mk .none none (.fields #[]) #[]))
noncomputable def ho431 : Params → Obj := (fun x0 => (.mk (.type "tuple") none (.seq #[(.str (hq "self") 738), (.str (hq "number") 739), (.str (hq "parent") 740), (.str (hq "attrs") 741)] 0) #[]))
noncomputable def ho432 : Params → Obj := (fun x0 => (.mk (.type "tuple") none (.seq #[] 0) #[]))
noncomputable def ho433 : Params → Obj := (fun x0 => (.mk .none none (.func (.mk (hq "__init__") (hq "Environment.__init__") (hP (hN (hC (hT 48)).1 0)) (.stmts (hB (hN (hC (hT 48)).1 0))) (hS (hN (hC (hT 48)).1 0)) 0 [] .none .none .none .none none .none .none 0)) #[]))
noncomputable def ho434 : Params → Obj := (fun x0 => (.mk (.type "code") none (.fields #[(.str (hq "__init__") 735), (.str (hq "Environment.__init__") 736), (.str (hq "/claim/cut.py") 737), (.int 308 0), (.int 4 0), (.int 0 0), (.int 0 0), (.int 3 0), (.ref 392), (.bool Bool.true), (.int 181 0), (.ref 393), .none, (.ref 394), (.ref 395), (.ref 396), (.int 742 0), (.int 308 0), (.str (hq "/claim/cut.py") 743)]) #[]))
noncomputable def ho435 : Params → Obj := (fun x0 => (.mk (.type "function") none (.func (.mk (hq "__init__") (hq "Environment.__init__") (hP (hN (hC (hT 48)).1 0)) (.stmts (hB (hN (hC (hT 48)).1 0))) (hS (hN (hC (hT 48)).1 0)) 3 [] (.ref 391) .none .none (.str (hq "vectorcove.values") 548) none (.ref 397) .none 0)) #[]))
noncomputable def ho436 : Params → Obj := (fun x0 => (.mk (.type "tuple") none (.seq #[(.str (hq "attrs") 745), (.str (hq "frame") 746), (.str (hq "kind") 747), (.str (hq "locked") 748), (.str (hq "locks") 749), (.str (hq "number") 750), (.str (hq "parent") 751)] 0) #[]))
noncomputable def ho437 : Params → Obj := (fun x0 => (.mk (.type "dict") none (.dict #[(.mk (@PySem.PyData.keyHash x0 (hq "__module__")) (.str (hq "__module__") 730) (.str (hq "vectorcove.values") 548)), (.mk (@PySem.PyData.keyHash x0 (hq "__firstlineno__")) (.str (hq "__firstlineno__") 734) (.int 306 733)), (.mk (@PySem.PyData.keyHash x0 (hq "__init__")) (.str (hq "__init__") 744) (.ref 398)), (.mk (@PySem.PyData.keyHash x0 (hq "__static_attributes__")) (.str (hq "__static_attributes__") 752) (.ref 399)), (.mk (@PySem.PyData.keyHash x0 (hq "__dict__")) (.str (hq "__dict__") 754) (.ref 402)), (.mk (@PySem.PyData.keyHash x0 (hq "__weakref__")) (.str (hq "__weakref__") 756) (.ref 403)), (.mk (@PySem.PyData.keyHash x0 (hq "__doc__")) (.str (hq "__doc__") 757) .none)] 4) #[]))
noncomputable def ho438 : Params → Obj := (fun x0 => (.mk (.type "type") none (.cls (.mk (hq "Environment") [(.type "object")] [(.ref 401), (.type "object")] 400 (hq "Environment") Bool.true [] [] Bool.false none Bool.false)) #[none, none, (some (.str (hq "Environment") 723)), (some (.str (hq "Environment") 731)), (some (.builtin "object.__new__")), (some (.bool Bool.true))]))
noncomputable def ho439 : Params → Obj := (fun x0 => (.mk (.type "getset_descriptor") none (.fields #[(.str (hq "__dict__") 753), (.ref 401), (.builtin "function.__dict__"), (.builtin "function.__dict__#set")]) #[]))
noncomputable def ho440 : Params → Obj := (fun x0 => (.mk (.type "getset_descriptor") none (.fields #[(.str (hq "__weakref__") 755), (.ref 401), (.builtin "ExceptionGroup.__weakref__"), .none]) #[]))
noncomputable def ho441 : Params → Obj := (fun x0 => (.mk (.type "super") none (.fields #[(.ref 401), (.ref 401), (.ref 401)]) #[]))
noncomputable def ho442 : Params → Obj := (fun x0 => (.mk (.type "builtin_function_or_method") none (.fields #[(.builtin "object.__init_subclass__"), (.ref 401)]) #[]))
noncomputable def ho443 : Params → Obj := (fun x0 => (.mk (.type "tuple") none (.seq #[] 0) #[]))
noncomputable def ho444 : Params → Obj := (fun x0 => (.mk .none none (.fields #[]) #[]))
noncomputable def ho445 : Params → Obj := (fun x0 => (.mk (.type "tuple") none (.seq #[(.str (hq "items") 763)] 0) #[]))
noncomputable def ho446 : Params → Obj := (fun x0 => (.mk (.type "tuple") none (.seq #[] 0) #[]))
noncomputable def ho447 : Params → Obj := (fun x0 => (.mk .none none (.func (.mk (hq "character") (hq "character") (hP (hT 49)) (.stmts (hB (hT 49))) (hS (hT 49)) 0 [] .none .none .none .none none .none .none 0)) #[]))
noncomputable def ho448 : Params → Obj := (fun x0 => (.mk (.type "code") none (.fields #[(.str (hq "character") 760), (.str (hq "character") 761), (.str (hq "/claim/cut.py") 762), (.int 316 0), (.int 1 0), (.int 0 0), (.int 0 0), (.int 3 0), (.ref 406), (.bool Bool.true), (.int 181 0), (.ref 407), .none, (.ref 408), (.ref 409), (.ref 410), (.int 764 0), (.int 316 0), (.str (hq "/claim/cut.py") 765)]) #[]))
noncomputable def ho449 : Params → Obj := (fun x0 => (.mk (.type "function") none (.func (.mk (hq "character") (hq "character") (hP (hT 49)) (.stmts (hB (hT 49))) (hS (hT 49)) 3 [] .none .none .none (.str (hq "vectorcove.values") 548) none (.ref 411) .none 0)) #[]))
noncomputable def ho450 : Params → Obj := (fun x0 => (.mk (.type "tuple") none (.seq #[] 0) #[]))
noncomputable def ho451 : Params → Obj := (fun x0 => (.mk .none none (.fields #[]) #[]))
noncomputable def ho452 : Params → Obj := (fun x0 => (.mk (.type "tuple") none (.seq #[(.str (hq "v") 770), (.str (hq "kind") 771)] 0) #[]))
noncomputable def ho453 : Params → Obj := (fun x0 => (.mk (.type "tuple") none (.seq #[] 0) #[]))
noncomputable def ho454 : Params → Obj := (fun x0 => (.mk .none none (.func (.mk (hq "length") (hq "length") (hP (hT 50)) (.stmts (hB (hT 50))) (hS (hT 50)) 0 [] .none .none .none .none none .none .none 0)) #[]))
noncomputable def ho455 : Params → Obj := (fun x0 => (.mk (.type "code") none (.fields #[(.str (hq "length") 767), (.str (hq "length") 768), (.str (hq "/claim/cut.py") 769), (.int 318 0), (.int 1 0), (.int 0 0), (.int 0 0), (.int 3 0), (.ref 413), (.bool Bool.true), (.int 181 0), (.ref 414), .none, (.ref 415), (.ref 416), (.ref 417), (.int 772 0), (.int 318 0), (.str (hq "/claim/cut.py") 773)]) #[]))
noncomputable def ho456 : Params → Obj := (fun x0 => (.mk (.type "function") none (.func (.mk (hq "length") (hq "length") (hP (hT 50)) (.stmts (hB (hT 50))) (hS (hT 50)) 3 [] .none .none .none (.str (hq "vectorcove.values") 548) none (.ref 418) .none 0)) #[]))
noncomputable def ho459 : Params → Obj := (fun x0 => (.mk (.type "tuple") none (.seq #[] 0) #[]))
noncomputable def ho460 : Params → Obj := (fun x0 => (.mk .none none (.fields #[]) #[]))
noncomputable def ho461 : Params → Obj := (fun x0 => (.mk (.type "tuple") none (.seq #[(.str (hq "v") 778)] 0) #[]))
noncomputable def ho462 : Params → Obj := (fun x0 => (.mk (.type "tuple") none (.seq #[] 0) #[]))
noncomputable def ho463 : Params → Obj := (fun x0 => (.mk .none none (.func (.mk (hq "is_atomic") (hq "is_atomic") (hP (hT 51)) (.stmts (hB (hT 51))) (hS (hT 51)) 0 [] .none .none .none .none none .none .none 0)) #[]))
noncomputable def ho464 : Params → Obj := (fun x0 => (.mk (.type "code") none (.fields #[(.str (hq "is_atomic") 775), (.str (hq "is_atomic") 776), (.str (hq "/claim/cut.py") 777), (.int 329 0), (.int 1 0), (.int 0 0), (.int 0 0), (.int 3 0), (.ref 420), (.bool Bool.true), (.int 181 0), (.ref 421), .none, (.ref 422), (.ref 423), (.ref 424), (.int 779 0), (.int 329 0), (.str (hq "/claim/cut.py") 780)]) #[]))
noncomputable def ho465 : Params → Obj := (fun x0 => (.mk (.type "function") none (.func (.mk (hq "is_atomic") (hq "is_atomic") (hP (hT 51)) (.stmts (hB (hT 51))) (hS (hT 51)) 3 [] .none .none .none (.str (hq "vectorcove.values") 548) none (.ref 425) .none 0)) #[]))
noncomputable def ho466 : Params → Obj := (fun x0 => (.mk (.type "tuple") none (.seq #[] 0) #[]))
noncomputable def ho467 : Params → Obj := (fun x0 => (.mk .none none (.fields #[]) #[]))
noncomputable def ho468 : Params → Obj := (fun x0 => (.mk (.type "tuple") none (.seq #[(.str (hq "v") 785)] 0) #[]))
noncomputable def ho469 : Params → Obj := (fun x0 => (.mk (.type "tuple") none (.seq #[] 0) #[]))
noncomputable def ho470 : Params → Obj := (fun x0 => (.mk .none none (.func (.mk (hq "share") (hq "share") (hP (hT 52)) (.stmts (hB (hT 52))) (hS (hT 52)) 0 [] .none .none .none .none none .none .none 0)) #[]))
noncomputable def ho471 : Params → Obj := (fun x0 => (.mk (.type "code") none (.fields #[(.str (hq "share") 782), (.str (hq "share") 783), (.str (hq "/claim/cut.py") 784), (.int 331 0), (.int 1 0), (.int 0 0), (.int 0 0), (.int 3 0), (.ref 427), (.bool Bool.true), (.int 181 0), (.ref 428), .none, (.ref 429), (.ref 430), (.ref 431), (.int 786 0), (.int 331 0), (.str (hq "/claim/cut.py") 787)]) #[]))
noncomputable def ho472 : Params → Obj := (fun x0 => (.mk (.type "function") none (.func (.mk (hq "share") (hq "share") (hP (hT 52)) (.stmts (hB (hT 52))) (hS (hT 52)) 3 [] .none .none .none (.str (hq "vectorcove.values") 548) none (.ref 432) .none 0)) #[]))
noncomputable def ho473 : Params → Obj := (fun x0 => (.mk (.type "tuple") none (.seq #[] 0) #[]))
noncomputable def ho474 : Params → Obj := (fun x0 => (.mk .none none (.fields #[]) #[]))
noncomputable def ho475 : Params → Obj := (fun x0 => (.mk (.type "tuple") none (.seq #[(.str (hq "notes") 796), (.str (hq "message") 797)] 0) #[]))
noncomputable def ho476 : Params → Obj := (fun x0 => (.mk (.type "tuple") none (.seq #[] 0) #[]))
noncomputable def ho477 : Params → Obj := (fun x0 => (.mk .none none (.func (.mk (hq "note") (hq "note") (hP (hT 55)) (.stmts (hB (hT 55))) (hS (hT 55)) 0 [] .none .none .none .none none .none .none 0)) #[]))
noncomputable def ho478 : Params → Obj := (fun x0 => (.mk (.type "code") none (.fields #[(.str (hq "note") 793), (.str (hq "note") 794), (.str (hq "/claim/cut.py") 795), (.int 337 0), (.int 2 0), (.int 0 0), (.int 0 0), (.int 3 0), (.ref 434), (.bool Bool.true), (.int 181 0), (.ref 435), .none, (.ref 436), (.ref 437), (.ref 438), (.int 798 0), (.int 337 0), (.str (hq "/claim/cut.py") 799)]) #[]))
noncomputable def ho479 : Params → Obj := (fun x0 => (.mk (.type "function") none (.func (.mk (hq "note") (hq "note") (hP (hT 55)) (.stmts (hB (hT 55))) (hS (hT 55)) 3 [] .none .none .none (.str (hq "vectorcove.coerce") 789) none (.ref 439) .none 0)) #[]))
noncomputable def ho480 : Params → Obj := (fun x0 => (.mk (.type "tuple") none (.seq #[] 0) #[]))
noncomputable def ho481 : Params → Obj := (fun x0 => (.mk .none none (.fields #[]) #[]))
noncomputable def ho482 : Params → Obj := (fun x0 => (.mk (.type "tuple") none (.seq #[(.str (hq "s") 804)] 0) #[]))
noncomputable def ho483 : Params → Obj := (fun x0 => (.mk (.type "tuple") none (.seq #[] 0) #[]))
noncomputable def ho484 : Params → Obj := (fun x0 => (.mk .none none (.func (.mk (hq "as_logical_text") (hq "as_logical_text") (hP (hT 56)) (.stmts (hB (hT 56))) (hS (hT 56)) 0 [] .none .none .none .none none .none .none 0)) #[]))
noncomputable def ho485 : Params → Obj := (fun x0 => (.mk (.type "code") none (.fields #[(.str (hq "as_logical_text") 801), (.str (hq "as_logical_text") 802), (.str (hq "/claim/cut.py") 803), (.int 340 0), (.int 1 0), (.int 0 0), (.int 0 0), (.int 3 0), (.ref 441), (.bool Bool.true), (.int 181 0), (.ref 442), .none, (.ref 443), (.ref 444), (.ref 445), (.int 805 0), (.int 340 0), (.str (hq "/claim/cut.py") 806)]) #[]))
noncomputable def ho486 : Params → Obj := (fun x0 => (.mk (.type "function") none (.func (.mk (hq "as_logical_text") (hq "as_logical_text") (hP (hT 56)) (.stmts (hB (hT 56))) (hS (hT 56)) 3 [] .none .none .none (.str (hq "vectorcove.coerce") 789) none (.ref 446) .none 0)) #[]))
noncomputable def ho487 : Params → Obj := (fun x0 => (.mk (.type "tuple") none (.seq #[] 0) #[]))
noncomputable def ho488 : Params → Obj := (fun x0 => (.mk .none none (.fields #[]) #[]))
noncomputable def ho489 : Params → Obj := (fun x0 => (.mk (.type "tuple") none (.seq #[(.str (hq "x") 811), (.str (hq "notes") 812), (.str (hq "found") 813)] 0) #[]))
noncomputable def ho490 : Params → Obj := (fun x0 => (.mk (.type "tuple") none (.seq #[] 0) #[]))
noncomputable def ho491 : Params → Obj := (fun x0 => (.mk .none none (.func (.mk (hq "double_to_integer") (hq "double_to_integer") (hP (hT 57)) (.stmts (hB (hT 57))) (hS (hT 57)) 0 [] .none .none .none .none none .none .none 0)) #[]))
noncomputable def ho492 : Params → Obj := (fun x0 => (.mk (.type "code") none (.fields #[(.str (hq "double_to_integer") 808), (.str (hq "double_to_integer") 809), (.str (hq "/claim/cut.py") 810), (.int 346 0), (.int 2 0), (.int 0 0), (.int 0 0), (.int 3 0), (.ref 448), (.bool Bool.true), (.int 181 0), (.ref 449), .none, (.ref 450), (.ref 451), (.ref 452), (.int 814 0), (.int 346 0), (.str (hq "/claim/cut.py") 815)]) #[]))
noncomputable def ho493 : Params → Obj := (fun x0 => (.mk (.type "function") none (.func (.mk (hq "double_to_integer") (hq "double_to_integer") (hP (hT 57)) (.stmts (hB (hT 57))) (hS (hT 57)) 3 [] .none .none .none (.str (hq "vectorcove.coerce") 789) none (.ref 453) .none 0)) #[]))
noncomputable def ho494 : Params → Obj := (fun x0 => (.mk (.type "tuple") none (.seq #[] 0) #[]))
noncomputable def ho495 : Params → Obj := (fun x0 => (.mk .none none (.fields #[]) #[]))
noncomputable def ho496 : Params → Obj := (fun x0 => (.mk (.type "tuple") none (.seq #[(.str (hq "s") 820), (.str (hq "notes") 821), (.str (hq "ok") 822), (.str (hq "found") 823)] 0) #[]))
noncomputable def ho497 : Params → Obj := (fun x0 => (.mk (.type "tuple") none (.seq #[] 0) #[]))
noncomputable def ho498 : Params → Obj := (fun x0 => (.mk .none none (.func (.mk (hq "text_to_double") (hq "text_to_double") (hP (hT 58)) (.stmts (hB (hT 58))) (hS (hT 58)) 0 [] .none .none .none .none none .none .none 0)) #[]))
noncomputable def ho499 : Params → Obj := (fun x0 => (.mk (.type "code") none (.fields #[(.str (hq "text_to_double") 817), (.str (hq "text_to_double") 818), (.str (hq "/claim/cut.py") 819), (.int 354 0), (.int 2 0), (.int 0 0), (.int 0 0), (.int 3 0), (.ref 455), (.bool Bool.true), (.int 181 0), (.ref 456), .none, (.ref 457), (.ref 458), (.ref 459), (.int 824 0), (.int 354 0), (.str (hq "/claim/cut.py") 825)]) #[]))
noncomputable def ho500 : Params → Obj := (fun x0 => (.mk (.type "function") none (.func (.mk (hq "text_to_double") (hq "text_to_double") (hP (hT 58)) (.stmts (hB (hT 58))) (hS (hT 58)) 3 [] .none .none .none (.str (hq "vectorcove.coerce") 789) none (.ref 460) .none 0)) #[]))
noncomputable def ho501 : Params → Obj := (fun x0 => (.mk (.type "tuple") none (.seq #[] 0) #[]))
noncomputable def ho502 : Params → Obj := (fun x0 => (.mk .none none (.fields #[]) #[]))
noncomputable def ho503 : Params → Obj := (fun x0 => (.mk (.type "tuple") none (.seq #[(.str (hq "kind") 830), (.str (hq "item") 831)] 0) #[]))
noncomputable def ho504 : Params → Obj := (fun x0 => (.mk (.type "tuple") none (.seq #[] 0) #[]))
noncomputable def ho505 : Params → Obj := (fun x0 => (.mk .none none (.func (.mk (hq "to_logical") (hq "to_logical") (hP (hT 59)) (.stmts (hB (hT 59))) (hS (hT 59)) 0 [] .none .none .none .none none .none .none 0)) #[]))
noncomputable def ho506 : Params → Obj := (fun x0 => (.mk (.type "code") none (.fields #[(.str (hq "to_logical") 827), (.str (hq "to_logical") 828), (.str (hq "/claim/cut.py") 829), (.int 360 0), (.int 2 0), (.int 0 0), (.int 0 0), (.int 3 0), (.ref 462), (.bool Bool.true), (.int 181 0), (.ref 463), .none, (.ref 464), (.ref 465), (.ref 466), (.int 832 0), (.int 360 0), (.str (hq "/claim/cut.py") 833)]) #[]))
noncomputable def ho507 : Params → Obj := (fun x0 => (.mk (.type "function") none (.func (.mk (hq "to_logical") (hq "to_logical") (hP (hT 59)) (.stmts (hB (hT 59))) (hS (hT 59)) 3 [] .none .none .none (.str (hq "vectorcove.coerce") 789) none (.ref 467) .none 0)) #[]))
noncomputable def ho508 : Params → Obj := (fun x0 => (.mk (.type "tuple") none (.seq #[] 0) #[]))
noncomputable def ho509 : Params → Obj := (fun x0 => (.mk .none none (.fields #[]) #[]))
noncomputable def ho510 : Params → Obj := (fun x0 => (.mk (.type "tuple") none (.seq #[(.str (hq "kind") 838), (.str (hq "item") 839), (.str (hq "notes") 840)] 0) #[]))
noncomputable def ho511 : Params → Obj := (fun x0 => (.mk (.type "tuple") none (.seq #[] 0) #[]))
noncomputable def ho512 : Params → Obj := (fun x0 => (.mk .none none (.func (.mk (hq "to_integer") (hq "to_integer") (hP (hT 60)) (.stmts (hB (hT 60))) (hS (hT 60)) 0 [] .none .none .none .none none .none .none 0)) #[]))
noncomputable def ho513 : Params → Obj := (fun x0 => (.mk (.type "code") none (.fields #[(.str (hq "to_integer") 835), (.str (hq "to_integer") 836), (.str (hq "/claim/cut.py") 837), (.int 370 0), (.int 3 0), (.int 0 0), (.int 0 0), (.int 3 0), (.ref 469), (.bool Bool.true), (.int 181 0), (.ref 470), .none, (.ref 471), (.ref 472), (.ref 473), (.int 841 0), (.int 370 0), (.str (hq "/claim/cut.py") 842)]) #[]))
noncomputable def ho514 : Params → Obj := (fun x0 => (.mk (.type "function") none (.func (.mk (hq "to_integer") (hq "to_integer") (hP (hT 60)) (.stmts (hB (hT 60))) (hS (hT 60)) 3 [] .none .none .none (.str (hq "vectorcove.coerce") 789) none (.ref 474) .none 0)) #[]))
noncomputable def ho515 : Params → Obj := (fun x0 => (.mk (.type "tuple") none (.seq #[] 0) #[]))
noncomputable def ho516 : Params → Obj := (fun x0 => (.mk .none none (.fields #[]) #[]))
noncomputable def ho517 : Params → Obj := (fun x0 => (.mk (.type "tuple") none (.seq #[(.str (hq "kind") 847), (.str (hq "item") 848), (.str (hq "notes") 849)] 0) #[]))
noncomputable def ho518 : Params → Obj := (fun x0 => (.mk (.type "tuple") none (.seq #[] 0) #[]))
noncomputable def ho519 : Params → Obj := (fun x0 => (.mk .none none (.func (.mk (hq "to_double") (hq "to_double") (hP (hT 61)) (.stmts (hB (hT 61))) (hS (hT 61)) 0 [] .none .none .none .none none .none .none 0)) #[]))
noncomputable def ho520 : Params → Obj := (fun x0 => (.mk (.type "code") none (.fields #[(.str (hq "to_double") 844), (.str (hq "to_double") 845), (.str (hq "/claim/cut.py") 846), (.int 378 0), (.int 3 0), (.int 0 0), (.int 0 0), (.int 3 0), (.ref 476), (.bool Bool.true), (.int 181 0), (.ref 477), .none, (.ref 478), (.ref 479), (.ref 480), (.int 850 0), (.int 378 0), (.str (hq "/claim/cut.py") 851)]) #[]))
noncomputable def ho521 : Params → Obj := (fun x0 => (.mk (.type "function") none (.func (.mk (hq "to_double") (hq "to_double") (hP (hT 61)) (.stmts (hB (hT 61))) (hS (hT 61)) 3 [] .none .none .none (.str (hq "vectorcove.coerce") 789) none (.ref 481) .none 0)) #[]))
noncomputable def ho522 : Params → Obj := (fun x0 => (.mk (.type "tuple") none (.seq #[] 0) #[]))
noncomputable def ho523 : Params → Obj := (fun x0 => (.mk .none none (.fields #[]) #[]))
noncomputable def ho524 : Params → Obj := (fun x0 => (.mk (.type "tuple") none (.seq #[(.str (hq "kind") 856), (.str (hq "item") 857)] 0) #[]))
noncomputable def ho525 : Params → Obj := (fun x0 => (.mk (.type "tuple") none (.seq #[] 0) #[]))
noncomputable def ho526 : Params → Obj := (fun x0 => (.mk .none none (.func (.mk (hq "to_text") (hq "to_text") (hP (hT 62)) (.stmts (hB (hT 62))) (hS (hT 62)) 0 [] .none .none .none .none none .none .none 0)) #[]))
noncomputable def ho527 : Params → Obj := (fun x0 => (.mk (.type "code") none (.fields #[(.str (hq "to_text") 853), (.str (hq "to_text") 854), (.str (hq "/claim/cut.py") 855), (.int 384 0), (.int 2 0), (.int 0 0), (.int 0 0), (.int 3 0), (.ref 483), (.bool Bool.true), (.int 181 0), (.ref 484), .none, (.ref 485), (.ref 486), (.ref 487), (.int 858 0), (.int 384 0), (.str (hq "/claim/cut.py") 859)]) #[]))
noncomputable def ho528 : Params → Obj := (fun x0 => (.mk (.type "function") none (.func (.mk (hq "to_text") (hq "to_text") (hP (hT 62)) (.stmts (hB (hT 62))) (hS (hT 62)) 3 [] .none .none .none (.str (hq "vectorcove.coerce") 789) none (.ref 488) .none 0)) #[]))
noncomputable def ho529 : Params → Obj := (fun x0 => (.mk (.type "tuple") none (.seq #[] 0) #[]))
noncomputable def ho530 : Params → Obj := (fun x0 => (.mk .none none (.fields #[]) #[]))
noncomputable def ho531 : Params → Obj := (fun x0 => (.mk (.type "tuple") none (.seq #[(.str (hq "kind") 864), (.str (hq "item") 865), (.str (hq "to") 866), (.str (hq "notes") 867)] 0) #[]))
noncomputable def ho532 : Params → Obj := (fun x0 => (.mk (.type "tuple") none (.seq #[] 0) #[]))
noncomputable def ho533 : Params → Obj := (fun x0 => (.mk .none none (.func (.mk (hq "item_as") (hq "item_as") (hP (hT 63)) (.stmts (hB (hT 63))) (hS (hT 63)) 0 [] .none .none .none .none none .none .none 0)) #[]))
noncomputable def ho534 : Params → Obj := (fun x0 => (.mk (.type "code") none (.fields #[(.str (hq "item_as") 861), (.str (hq "item_as") 862), (.str (hq "/claim/cut.py") 863), (.int 392 0), (.int 4 0), (.int 0 0), (.int 0 0), (.int 3 0), (.ref 490), (.bool Bool.true), (.int 181 0), (.ref 491), .none, (.ref 492), (.ref 493), (.ref 494), (.int 868 0), (.int 392 0), (.str (hq "/claim/cut.py") 869)]) #[]))
noncomputable def ho535 : Params → Obj := (fun x0 => (.mk (.type "function") none (.func (.mk (hq "item_as") (hq "item_as") (hP (hT 63)) (.stmts (hB (hT 63))) (hS (hT 63)) 3 [] .none .none .none (.str (hq "vectorcove.coerce") 789) none (.ref 495) .none 0)) #[]))
noncomputable def ho536 : Params → Obj := (fun x0 => (.mk (.type "tuple") none (.seq #[] 0) #[]))
noncomputable def ho537 : Params → Obj := (fun x0 => (.mk .none none (.fields #[]) #[]))
noncomputable def ho538 : Params → Obj := (fun x0 => (.mk (.type "tuple") none (.seq #[(.str (hq "kind") 874)] 0) #[]))
noncomputable def ho539 : Params → Obj := (fun x0 => (.mk (.type "tuple") none (.seq #[] 0) #[]))
noncomputable def ho540 : Params → Obj := (fun x0 => (.mk .none none (.func (.mk (hq "is_atomic_kind") (hq "is_atomic_kind") (hP (hT 64)) (.stmts (hB (hT 64))) (hS (hT 64)) 0 [] .none .none .none .none none .none .none 0)) #[]))
noncomputable def ho541 : Params → Obj := (fun x0 => (.mk (.type "code") none (.fields #[(.str (hq "is_atomic_kind") 871), (.str (hq "is_atomic_kind") 872), (.str (hq "/claim/cut.py") 873), (.int 406 0), (.int 1 0), (.int 0 0), (.int 0 0), (.int 3 0), (.ref 497), (.bool Bool.true), (.int 181 0), (.ref 498), .none, (.ref 499), (.ref 500), (.ref 501), (.int 875 0), (.int 406 0), (.str (hq "/claim/cut.py") 876)]) #[]))
noncomputable def ho542 : Params → Obj := (fun x0 => (.mk (.type "function") none (.func (.mk (hq "is_atomic_kind") (hq "is_atomic_kind") (hP (hT 64)) (.stmts (hB (hT 64))) (hS (hT 64)) 3 [] .none .none .none (.str (hq "vectorcove.coerce") 789) none (.ref 502) .none 0)) #[]))
noncomputable def ho543 : Params → Obj := (fun x0 => (.mk (.type "tuple") none (.seq #[] 0) #[]))
noncomputable def ho544 : Params → Obj := (fun x0 => (.mk .none none (.fields #[]) #[]))
noncomputable def ho545 : Params → Obj := (fun x0 => (.mk (.type "tuple") none (.seq #[(.str (hq "kind") 881), (.str (hq "item") 882), (.str (hq "to") 883), (.str (hq "notes") 884)] 0) #[]))
noncomputable def ho546 : Params → Obj := (fun x0 => (.mk (.type "tuple") none (.seq #[] 0) #[]))
noncomputable def ho547 : Params → Obj := (fun x0 => (.mk .none none (.func (.mk (hq "list_item_as") (hq "list_item_as") (hP (hT 65)) (.stmts (hB (hT 65))) (hS (hT 65)) 0 [] .none .none .none .none none .none .none 0)) #[]))
noncomputable def ho548 : Params → Obj := (fun x0 => (.mk (.type "code") none (.fields #[(.str (hq "list_item_as") 878), (.str (hq "list_item_as") 879), (.str (hq "/claim/cut.py") 880), (.int 408 0), (.int 4 0), (.int 0 0), (.int 0 0), (.int 3 0), (.ref 504), (.bool Bool.true), (.int 181 0), (.ref 505), .none, (.ref 506), (.ref 507), (.ref 508), (.int 885 0), (.int 408 0), (.str (hq "/claim/cut.py") 886)]) #[]))
noncomputable def ho549 : Params → Obj := (fun x0 => (.mk (.type "function") none (.func (.mk (hq "list_item_as") (hq "list_item_as") (hP (hT 65)) (.stmts (hB (hT 65))) (hS (hT 65)) 3 [] .none .none .none (.str (hq "vectorcove.coerce") 789) none (.ref 509) .none 0)) #[]))
noncomputable def ho550 : Params → Obj := (fun x0 => (.mk (.type "tuple") none (.seq #[] 0) #[]))
noncomputable def ho551 : Params → Obj := (fun x0 => (.mk .none none (.fields #[]) #[]))
noncomputable def ho552 : Params → Obj := (fun x0 => (.mk (.type "tuple") none (.seq #[(.str (hq "v") 891), (.str (hq "kind") 892)] 0) #[]))
noncomputable def ho553 : Params → Obj := (fun x0 => (.mk (.type "tuple") none (.seq #[] 0) #[]))
noncomputable def ho554 : Params → Obj := (fun x0 => (.mk .none none (.func (.mk (hq "refuse_type") (hq "refuse_type") (hP (hT 66)) (.stmts (hB (hT 66))) (hS (hT 66)) 0 [] .none .none .none .none none .none .none 0)) #[]))
noncomputable def ho555 : Params → Obj := (fun x0 => (.mk (.type "code") none (.fields #[(.str (hq "refuse_type") 888), (.str (hq "refuse_type") 889), (.str (hq "/claim/cut.py") 890), (.int 414 0), (.int 2 0), (.int 0 0), (.int 0 0), (.int 3 0), (.ref 511), (.bool Bool.true), (.int 181 0), (.ref 512), .none, (.ref 513), (.ref 514), (.ref 515), (.int 893 0), (.int 414 0), (.str (hq "/claim/cut.py") 894)]) #[]))
noncomputable def ho556 : Params → Obj := (fun x0 => (.mk (.type "function") none (.func (.mk (hq "refuse_type") (hq "refuse_type") (hP (hT 66)) (.stmts (hB (hT 66))) (hS (hT 66)) 3 [] .none .none .none (.str (hq "vectorcove.coerce") 789) none (.ref 516) .none 0)) #[]))
noncomputable def ho557 : Params → Obj := (fun x0 => (.mk (.type "tuple") none (.seq #[] 0) #[]))
noncomputable def ho558 : Params → Obj := (fun x0 => (.mk .none none (.fields #[]) #[]))
noncomputable def ho559 : Params → Obj := (fun x0 => (.mk .none none (.func (.mk (hq "as_vector_kind") (hq "as_vector_kind") (hP (hT 67)) (.stmts (hB (hT 67))) (hS (hT 67)) 0 [] .none .none .none .none none .none .none 0)) #[]))
noncomputable def ho560 : Params → Obj := (fun x0 => (.mk (.type "code") none (.fields #[(.str (hq "as_vector_kind") 896), (.str (hq "as_vector_kind") 897), (.str (hq "/claim/cut.py") 898), (.int 416 0), (.int 2 0), (.int 0 0), (.int 0 0), (.int 3 0), (.ref 518), (.bool Bool.true), (.int 181 0), (.ref 519), .none, .none, .none, (.ref 520), (.int 899 0), (.int 416 0), (.str (hq "/claim/cut.py") 900)]) #[]))
noncomputable def ho561 : Params → Obj := (fun x0 => (.mk (.type "function") none (.func (.mk (hq "as_vector_kind") (hq "as_vector_kind") (hP (hT 67)) (.stmts (hB (hT 67))) (hS (hT 67)) 3 [] .none .none .none (.str (hq "vectorcove.coerce") 789) none (.ref 521) .none 0)) #[]))
noncomputable def ho562 : Params → Obj := (fun x0 => (.mk (.type "tuple") none (.seq #[] 0) #[]))
noncomputable def ho563 : Params → Obj := (fun x0 => (.mk .none none (.fields #[]) #[]))
noncomputable def ho564 : Params → Obj := (fun x0 => (.mk (.type "tuple") none (.seq #[(.str (hq "v") 905), (.str (hq "names") 906)] 0) #[]))
noncomputable def ho565 : Params → Obj := (fun x0 => (.mk (.type "tuple") none (.seq #[] 0) #[]))
noncomputable def ho566 : Params → Obj := (fun x0 => (.mk .none none (.func (.mk (hq "with_names") (hq "with_names") (hP (hT 68)) (.stmts (hB (hT 68))) (hS (hT 68)) 0 [] .none .none .none .none none .none .none 0)) #[]))
noncomputable def ho567 : Params → Obj := (fun x0 => (.mk (.type "code") none (.fields #[(.str (hq "with_names") 902), (.str (hq "with_names") 903), (.str (hq "/claim/cut.py") 904), (.int 430 0), (.int 2 0), (.int 0 0), (.int 0 0), (.int 3 0), (.ref 523), (.bool Bool.true), (.int 181 0), (.ref 524), .none, (.ref 525), (.ref 526), (.ref 527), (.int 907 0), (.int 430 0), (.str (hq "/claim/cut.py") 908)]) #[]))
noncomputable def ho568 : Params → Obj := (fun x0 => (.mk (.type "function") none (.func (.mk (hq "with_names") (hq "with_names") (hP (hT 68)) (.stmts (hB (hT 68))) (hS (hT 68)) 3 [] .none .none .none (.str (hq "vectorcove.coerce") 789) none (.ref 528) .none 0)) #[]))
noncomputable def ho569 : Params → Obj := (fun x0 => (.mk (.type "tuple") none (.seq #[] 0) #[]))
noncomputable def ho570 : Params → Obj := (fun x0 => (.mk .none none (.fields #[]) #[]))
noncomputable def ho571 : Params → Obj := (fun x0 => (.mk .none none (.func (.mk (hq "as_kind") (hq "as_kind") (hP (hT 69)) (.stmts (hB (hT 69))) (hS (hT 69)) 0 [] .none .none .none .none none .none .none 0)) #[]))
noncomputable def ho572 : Params → Obj := (fun x0 => (.mk (.type "code") none (.fields #[(.str (hq "as_kind") 910), (.str (hq "as_kind") 911), (.str (hq "/claim/cut.py") 912), (.int 434 0), (.int 3 0), (.int 0 0), (.int 0 0), (.int 3 0), (.ref 530), (.bool Bool.true), (.int 181 0), (.ref 531), .none, .none, .none, (.ref 532), (.int 913 0), (.int 434 0), (.str (hq "/claim/cut.py") 914)]) #[]))
noncomputable def ho573 : Params → Obj := (fun x0 => (.mk (.type "function") none (.func (.mk (hq "as_kind") (hq "as_kind") (hP (hT 69)) (.stmts (hB (hT 69))) (hS (hT 69)) 3 [] .none .none .none (.str (hq "vectorcove.coerce") 789) none (.ref 533) .none 0)) #[]))
noncomputable def ho574 : Params → Obj := (fun x0 => (.mk (.type "tuple") none (.seq #[] 0) #[]))
noncomputable def ho575 : Params → Obj := (fun x0 => (.mk .none none (.fields #[]) #[]))
noncomputable def ho576 : Params → Obj := (fun x0 => (.mk (.type "tuple") none (.seq #[(.str (hq "v") 919)] 0) #[]))
noncomputable def ho577 : Params → Obj := (fun x0 => (.mk (.type "tuple") none (.seq #[] 0) #[]))
noncomputable def ho578 : Params → Obj := (fun x0 => (.mk .none none (.func (.mk (hq "as_list") (hq "as_list") (hP (hT 70)) (.stmts (hB (hT 70))) (hS (hT 70)) 0 [] .none .none .none .none none .none .none 0)) #[]))
noncomputable def ho579 : Params → Obj := (fun x0 => (.mk (.type "code") none (.fields #[(.str (hq "as_list") 916), (.str (hq "as_list") 917), (.str (hq "/claim/cut.py") 918), (.int 441 0), (.int 1 0), (.int 0 0), (.int 0 0), (.int 3 0), (.ref 535), (.bool Bool.true), (.int 181 0), (.ref 536), .none, (.ref 537), (.ref 538), (.ref 539), (.int 920 0), (.int 441 0), (.str (hq "/claim/cut.py") 921)]) #[]))
noncomputable def ho580 : Params → Obj := (fun x0 => (.mk (.type "function") none (.func (.mk (hq "as_list") (hq "as_list") (hP (hT 70)) (.stmts (hB (hT 70))) (hS (hT 70)) 3 [] .none .none .none (.str (hq "vectorcove.coerce") 789) none (.ref 540) .none 0)) #[]))
noncomputable def ho581 : Params → Obj := (fun x0 => (.mk (.type "tuple") none (.seq #[] 0) #[]))
noncomputable def ho582 : Params → Obj := (fun x0 => (.mk .none none (.fields #[]) #[]))
noncomputable def ho583 : Params → Obj := (fun x0 => (.mk (.type "tuple") none (.seq #[(.str (hq "v") 926), (.str (hq "count") 927), (.str (hq "found") 928)] 0) #[]))
noncomputable def ho584 : Params → Obj := (fun x0 => (.mk (.type "tuple") none (.seq #[] 0) #[]))
noncomputable def ho585 : Params → Obj := (fun x0 => (.mk .none none (.func (.mk (hq "condition") (hq "condition") (hP (hT 71)) (.stmts (hB (hT 71))) (hS (hT 71)) 0 [] .none .none .none .none none .none .none 0)) #[]))
noncomputable def ho586 : Params → Obj := (fun x0 => (.mk (.type "code") none (.fields #[(.str (hq "condition") 923), (.str (hq "condition") 924), (.str (hq "/claim/cut.py") 925), (.int 443 0), (.int 1 0), (.int 0 0), (.int 0 0), (.int 3 0), (.ref 542), (.bool Bool.true), (.int 181 0), (.ref 543), .none, (.ref 544), (.ref 545), (.ref 546), (.int 929 0), (.int 443 0), (.str (hq "/claim/cut.py") 930)]) #[]))
noncomputable def ho587 : Params → Obj := (fun x0 => (.mk (.type "function") none (.func (.mk (hq "condition") (hq "condition") (hP (hT 71)) (.stmts (hB (hT 71))) (hS (hT 71)) 3 [] .none .none .none (.str (hq "vectorcove.coerce") 789) none (.ref 547) .none 0)) #[]))
noncomputable def ho588 : Params → Obj := (fun x0 => (.mk (.type "tuple") none (.seq #[] 0) #[]))
noncomputable def ho589 : Params → Obj := (fun x0 => (.mk .none none (.fields #[]) #[]))
noncomputable def ho590 : Params → Obj := (fun x0 => (.mk (.type "tuple") none (.seq #[(.str (hq "script") 937), (.str (hq "row") 938), (.str (hq "cell") 939), (.str (hq "rest") 940), (.str (hq "lap") 941), (.str (hq "seed") 942)] 0) #[]))
noncomputable def ho591 : Params → Obj := (fun x0 => (.mk (.type "tuple") none (.seq #[] 0) #[]))
noncomputable def ho592 : Params → Obj := (fun x0 => (.mk .none none (.func (.mk (hq "_law_draws") (hq "_law_draws") (hP (hT 73)) (.stmts (hB (hT 73))) (hS (hT 73)) 0 [] .none .none .none .none none .none .none 0)) #[]))
noncomputable def ho593 : Params → Obj := (fun x0 => (.mk (.type "code") none (.fields #[(.str (hq "_law_draws") 934), (.str (hq "_law_draws") 935), (.str (hq "/claim/cut.py") 936), (.int 458 0), (.int 1 0), (.int 0 0), (.int 0 0), (.int 3 0), (.ref 549), (.bool Bool.true), (.int 181 0), (.ref 550), .none, (.ref 551), (.ref 552), (.ref 553), (.int 943 0), (.int 458 0), (.str (hq "/claim/cut.py") 944)]) #[]))
noncomputable def ho594 : Params → Obj := (fun x0 => (.mk (.type "function") none (.func (.mk (hq "_law_draws") (hq "_law_draws") (hP (hT 73)) (.stmts (hB (hT 73))) (hS (hT 73)) 3 [] .none .none .none (.str (hq "law_nz0498_01") 932) none (.ref 554) .none 0)) #[]))
noncomputable def ho595 : Params → Obj := (fun x0 => (.mk (.type "tuple") none (.seq #[] 0) #[]))
noncomputable def ho596 : Params → Obj := (fun x0 => (.mk .none none (.fields #[]) #[]))
noncomputable def ho597 : Params → Obj := (fun x0 => (.mk (.type "tuple") none (.seq #[(.str (hq "state") 949), (.str (hq "bound") 950)] 0) #[]))
noncomputable def ho598 : Params → Obj := (fun x0 => (.mk (.type "tuple") none (.seq #[] 0) #[]))
noncomputable def ho599 : Params → Obj := (fun x0 => (.mk .none none (.func (.mk (hq "_law_take") (hq "_law_take") (hP (hT 74)) (.stmts (hB (hT 74))) (hS (hT 74)) 0 [] .none .none .none .none none .none .none 0)) #[]))
noncomputable def ho600 : Params → Obj := (fun x0 => (.mk (.type "code") none (.fields #[(.str (hq "_law_take") 946), (.str (hq "_law_take") 947), (.str (hq "/claim/cut.py") 948), (.int 473 0), (.int 2 0), (.int 0 0), (.int 0 0), (.int 3 0), (.ref 556), (.bool Bool.true), (.int 181 0), (.ref 557), .none, (.ref 558), (.ref 559), (.ref 560), (.int 951 0), (.int 473 0), (.str (hq "/claim/cut.py") 952)]) #[]))
noncomputable def ho601 : Params → Obj := (fun x0 => (.mk (.type "function") none (.func (.mk (hq "_law_take") (hq "_law_take") (hP (hT 74)) (.stmts (hB (hT 74))) (hS (hT 74)) 3 [] .none .none .none (.str (hq "law_nz0498_01") 932) none (.ref 561) .none 0)) #[]))
noncomputable def ho602 : Params → Obj := (fun x0 => (.mk (.type "tuple") none (.seq #[] 0) #[]))
noncomputable def ho603 : Params → Obj := (fun x0 => (.mk .none none (.fields #[]) #[]))
noncomputable def ho604 : Params → Obj := (fun x0 => (.mk .none none (.func (.mk (hq "_law_item") (hq "_law_item") (hP (hT 75)) (.stmts (hB (hT 75))) (hS (hT 75)) 0 [] .none .none .none .none none .none .none 0)) #[]))
noncomputable def ho605 : Params → Obj := (fun x0 => (.mk (.type "code") none (.fields #[(.str (hq "_law_item") 954), (.str (hq "_law_item") 955), (.str (hq "/claim/cut.py") 956), (.int 479 0), (.int 3 0), (.int 0 0), (.int 0 0), (.int 3 0), (.ref 563), (.bool Bool.true), (.int 181 0), (.ref 564), .none, .none, .none, (.ref 565), (.int 957 0), (.int 479 0), (.str (hq "/claim/cut.py") 958)]) #[]))
noncomputable def ho606 : Params → Obj := (fun x0 => (.mk (.type "function") none (.func (.mk (hq "_law_item") (hq "_law_item") (hP (hT 75)) (.stmts (hB (hT 75))) (hS (hT 75)) 3 [] .none .none .none (.str (hq "law_nz0498_01") 932) none (.ref 566) .none 0)) #[]))
noncomputable def ho607 : Params → Obj := (fun x0 => (.mk (.type "tuple") none (.seq #[] 0) #[]))
noncomputable def ho608 : Params → Obj := (fun x0 => (.mk .none none (.fields #[]) #[]))
noncomputable def ho609 : Params → Obj := (fun x0 => (.mk .none none (.func (.mk (hq "_law_atomic") (hq "_law_atomic") (hP (hT 76)) (.stmts (hB (hT 76))) (hS (hT 76)) 0 [] .none .none .none .none none .none .none 0)) #[]))
noncomputable def ho610 : Params → Obj := (fun x0 => (.mk (.type "code") none (.fields #[(.str (hq "_law_atomic") 960), (.str (hq "_law_atomic") 961), (.str (hq "/claim/cut.py") 962), (.int 492 0), (.int 3 0), (.int 0 0), (.int 0 0), (.int 3 0), (.ref 568), (.bool Bool.true), (.int 181 0), (.ref 569), .none, .none, .none, (.ref 570), (.int 963 0), (.int 492 0), (.str (hq "/claim/cut.py") 964)]) #[]))
noncomputable def ho611 : Params → Obj := (fun x0 => (.mk (.type "function") none (.func (.mk (hq "_law_atomic") (hq "_law_atomic") (hP (hT 76)) (.stmts (hB (hT 76))) (hS (hT 76)) 3 [] .none .none .none (.str (hq "law_nz0498_01") 932) none (.ref 571) .none 0)) #[]))
noncomputable def ho612 : Params → Obj := (fun x0 => (.mk (.type "tuple") none (.seq #[] 0) #[]))
noncomputable def ho613 : Params → Obj := (fun x0 => (.mk .none none (.fields #[]) #[]))
noncomputable def ho614 : Params → Obj := (fun x0 => (.mk .none none (.func (.mk (hq "_law_named") (hq "_law_named") (hP (hT 77)) (.stmts (hB (hT 77))) (hS (hT 77)) 0 [] .none .none .none .none none .none .none 0)) #[]))
noncomputable def ho615 : Params → Obj := (fun x0 => (.mk (.type "code") none (.fields #[(.str (hq "_law_named") 966), (.str (hq "_law_named") 967), (.str (hq "/claim/cut.py") 968), (.int 495 0), (.int 2 0), (.int 0 0), (.int 0 0), (.int 3 0), (.ref 573), (.bool Bool.true), (.int 181 0), (.ref 574), .none, .none, .none, (.ref 575), (.int 969 0), (.int 495 0), (.str (hq "/claim/cut.py") 970)]) #[]))
noncomputable def ho616 : Params → Obj := (fun x0 => (.mk (.type "function") none (.func (.mk (hq "_law_named") (hq "_law_named") (hP (hT 77)) (.stmts (hB (hT 77))) (hS (hT 77)) 3 [] .none .none .none (.str (hq "law_nz0498_01") 932) none (.ref 576) .none 0)) #[]))
noncomputable def ho617 : Params → Obj := (fun x0 => (.mk (.type "tuple") none (.seq #[] 0) #[]))
noncomputable def ho618 : Params → Obj := (fun x0 => (.mk .none none (.fields #[]) #[]))
noncomputable def ho619 : Params → Obj := (fun x0 => (.mk .none none (.func (.mk (hq "_law_value") (hq "_law_value") (hP (hT 78)) (.stmts (hB (hT 78))) (hS (hT 78)) 0 [] .none .none .none .none none .none .none 0)) #[]))
noncomputable def ho620 : Params → Obj := (fun x0 => (.mk (.type "code") none (.fields #[(.str (hq "_law_value") 972), (.str (hq "_law_value") 973), (.str (hq "/claim/cut.py") 974), (.int 501 0), (.int 2 0), (.int 0 0), (.int 0 0), (.int 3 0), (.ref 578), (.bool Bool.true), (.int 181 0), (.ref 579), .none, .none, .none, (.ref 580), (.int 975 0), (.int 501 0), (.str (hq "/claim/cut.py") 976)]) #[]))
noncomputable def ho621 : Params → Obj := (fun x0 => (.mk (.type "function") none (.func (.mk (hq "_law_value") (hq "_law_value") (hP (hT 78)) (.stmts (hB (hT 78))) (hS (hT 78)) 3 [] .none .none .none (.str (hq "law_nz0498_01") 932) none (.ref 581) .none 0)) #[]))
noncomputable def ho622 : Params → Obj := (fun x0 => (.mk (.type "tuple") none (.seq #[] 0) #[]))
noncomputable def ho623 : Params → Obj := (fun x0 => (.mk .none none (.fields #[]) #[]))
noncomputable def ho624 : Params → Obj := (fun x0 => (.mk (.type "tuple") none (.seq #[(.str (hq "state") 981), (.str (hq "script") 982), (.str (hq "form") 983)] 0) #[]))
noncomputable def ho625 : Params → Obj := (fun x0 => (.mk (.type "tuple") none (.seq #[] 0) #[]))
noncomputable def ho626 : Params → Obj := (fun x0 => (.mk .none none (.func (.mk (hq "_law_simple") (hq "_law_simple") (hP (hT 79)) (.stmts (hB (hT 79))) (hS (hT 79)) 0 [] .none .none .none .none none .none .none 0)) #[]))
noncomputable def ho627 : Params → Obj := (fun x0 => (.mk (.type "code") none (.fields #[(.str (hq "_law_simple") 978), (.str (hq "_law_simple") 979), (.str (hq "/claim/cut.py") 980), (.int 519 0), (.int 2 0), (.int 0 0), (.int 0 0), (.int 3 0), (.ref 583), (.bool Bool.true), (.int 181 0), (.ref 584), .none, (.ref 585), (.ref 586), (.ref 587), (.int 984 0), (.int 519 0), (.str (hq "/claim/cut.py") 985)]) #[]))
noncomputable def ho628 : Params → Obj := (fun x0 => (.mk (.type "function") none (.func (.mk (hq "_law_simple") (hq "_law_simple") (hP (hT 79)) (.stmts (hB (hT 79))) (hS (hT 79)) 3 [] .none .none .none (.str (hq "law_nz0498_01") 932) none (.ref 588) .none 0)) #[]))
noncomputable def ho629 : Params → Obj := (fun x0 => (.mk (.type "tuple") none (.seq #[] 0) #[]))
noncomputable def ho630 : Params → Obj := (fun x0 => (.mk .none none (.fields #[]) #[]))
noncomputable def ho631 : Params → Obj := (fun x0 => (.mk (.type "tuple") none (.seq #[(.str (hq "v") 990)] 0) #[]))
noncomputable def ho632 : Params → Obj := (fun x0 => (.mk (.type "tuple") none (.seq #[] 0) #[]))
noncomputable def ho633 : Params → Obj := (fun x0 => (.mk .none none (.func (.mk (hq "_law_size") (hq "_law_size") (hP (hT 80)) (.stmts (hB (hT 80))) (hS (hT 80)) 0 [] .none .none .none .none none .none .none 0)) #[]))
noncomputable def ho634 : Params → Obj := (fun x0 => (.mk (.type "code") none (.fields #[(.str (hq "_law_size") 987), (.str (hq "_law_size") 988), (.str (hq "/claim/cut.py") 989), (.int 528 0), (.int 1 0), (.int 0 0), (.int 0 0), (.int 3 0), (.ref 590), (.bool Bool.true), (.int 181 0), (.ref 591), .none, (.ref 592), (.ref 593), (.ref 594), (.int 991 0), (.int 528 0), (.str (hq "/claim/cut.py") 992)]) #[]))
noncomputable def ho635 : Params → Obj := (fun x0 => (.mk (.type "function") none (.func (.mk (hq "_law_size") (hq "_law_size") (hP (hT 80)) (.stmts (hB (hT 80))) (hS (hT 80)) 3 [] .none .none .none (.str (hq "law_nz0498_01") 932) none (.ref 595) .none 0)) #[]))
noncomputable def ho636 : Params → Obj := (fun x0 => (.mk (.type "tuple") none (.seq #[] 0) #[]))
noncomputable def ho637 : Params → Obj := (fun x0 => (.mk .none none (.fields #[]) #[]))
noncomputable def ho638 : Params → Obj := (fun x0 => (.mk (.type "tuple") none (.seq #[(.str (hq "v") 997), (.str (hq "odd") 998), (.str (hq "item") 999)] 0) #[]))
noncomputable def ho639 : Params → Obj := (fun x0 => (.mk (.type "tuple") none (.seq #[] 0) #[]))
noncomputable def ho640 : Params → Obj := (fun x0 => (.mk .none none (.func (.mk (hq "_law_told") (hq "_law_told") (hP (hT 81)) (.stmts (hB (hT 81))) (hS (hT 81)) 0 [] .none .none .none .none none .none .none 0)) #[]))
noncomputable def ho641 : Params → Obj := (fun x0 => (.mk (.type "code") none (.fields #[(.str (hq "_law_told") 994), (.str (hq "_law_told") 995), (.str (hq "/claim/cut.py") 996), (.int 536 0), (.int 1 0), (.int 0 0), (.int 0 0), (.int 3 0), (.ref 597), (.bool Bool.true), (.int 181 0), (.ref 598), .none, (.ref 599), (.ref 600), (.ref 601), (.int 1000 0), (.int 536 0), (.str (hq "/claim/cut.py") 1001)]) #[]))
noncomputable def ho642 : Params → Obj := (fun x0 => (.mk (.type "function") none (.func (.mk (hq "_law_told") (hq "_law_told") (hP (hT 81)) (.stmts (hB (hT 81))) (hS (hT 81)) 3 [] .none .none .none (.str (hq "law_nz0498_01") 932) none (.ref 602) .none 0)) #[]))
noncomputable def ho643 : Params → Obj := (fun x0 => (.mk (.type "tuple") none (.seq #[] 0) #[]))
noncomputable def ho644 : Params → Obj := (fun x0 => (.mk .none none (.fields #[]) #[]))
noncomputable def ho645 : Params → Obj := (fun x0 => (.mk (.type "tuple") none (.seq #[(.str (hq "a") 1006), (.str (hq "b") 1007)] 0) #[]))
noncomputable def ho646 : Params → Obj := (fun x0 => (.mk (.type "tuple") none (.seq #[] 0) #[]))
noncomputable def ho647 : Params → Obj := (fun x0 => (.mk .none none (.func (.mk (hq "_law_alike") (hq "_law_alike") (hP (hT 82)) (.stmts (hB (hT 82))) (hS (hT 82)) 0 [] .none .none .none .none none .none .none 0)) #[]))
noncomputable def ho648 : Params → Obj := (fun x0 => (.mk (.type "code") none (.fields #[(.str (hq "_law_alike") 1003), (.str (hq "_law_alike") 1004), (.str (hq "/claim/cut.py") 1005), (.int 552 0), (.int 2 0), (.int 0 0), (.int 0 0), (.int 3 0), (.ref 604), (.bool Bool.true), (.int 181 0), (.ref 605), .none, (.ref 606), (.ref 607), (.ref 608), (.int 1008 0), (.int 552 0), (.str (hq "/claim/cut.py") 1009)]) #[]))
noncomputable def ho649 : Params → Obj := (fun x0 => (.mk (.type "function") none (.func (.mk (hq "_law_alike") (hq "_law_alike") (hP (hT 82)) (.stmts (hB (hT 82))) (hS (hT 82)) 3 [] .none .none .none (.str (hq "law_nz0498_01") 932) none (.ref 609) .none 0)) #[]))
noncomputable def ho650 : Params → Obj := (fun x0 => (.mk (.type "tuple") none (.seq #[] 0) #[]))
noncomputable def ho651 : Params → Obj := (fun x0 => (.mk .none none (.fields #[]) #[]))
noncomputable def ho652 : Params → Obj := (fun x0 => (.mk .none none (.func (.mk (hq "_law_heads") (hq "_law_heads") (hP (hT 83)) (.stmts (hB (hT 83))) (hS (hT 83)) 0 [] .none .none .none .none none .none .none 0)) #[]))
noncomputable def ho653 : Params → Obj := (fun x0 => (.mk (.type "code") none (.fields #[(.str (hq "_law_heads") 1011), (.str (hq "_law_heads") 1012), (.str (hq "/claim/cut.py") 1013), (.int 564 0), (.int 1 0), (.int 0 0), (.int 0 0), (.int 3 0), (.ref 611), (.bool Bool.true), (.int 181 0), (.ref 612), .none, .none, .none, (.ref 613), (.int 1014 0), (.int 564 0), (.str (hq "/claim/cut.py") 1015)]) #[]))
noncomputable def ho654 : Params → Obj := (fun x0 => (.mk (.type "function") none (.func (.mk (hq "_law_heads") (hq "_law_heads") (hP (hT 83)) (.stmts (hB (hT 83))) (hS (hT 83)) 3 [] .none .none .none (.str (hq "law_nz0498_01") 932) none (.ref 614) .none 0)) #[]))
noncomputable def ho655 : Params → Obj := (fun x0 => (.mk (.type "tuple") none (.seq #[] 0) #[]))
noncomputable def ho656 : Params → Obj := (fun x0 => (.mk .none none (.fields #[]) #[]))
noncomputable def ho657 : Params → Obj := (fun x0 => (.mk .none none (.func (.mk (hq "_law_listed") (hq "_law_listed") (hP (hT 84)) (.stmts (hB (hT 84))) (hS (hT 84)) 0 [] .none .none .none .none none .none .none 0)) #[]))
noncomputable def ho658 : Params → Obj := (fun x0 => (.mk (.type "code") none (.fields #[(.str (hq "_law_listed") 1017), (.str (hq "_law_listed") 1018), (.str (hq "/claim/cut.py") 1019), (.int 571 0), (.int 1 0), (.int 0 0), (.int 0 0), (.int 3 0), (.ref 616), (.bool Bool.true), (.int 181 0), (.ref 617), .none, .none, .none, (.ref 618), (.int 1020 0), (.int 571 0), (.str (hq "/claim/cut.py") 1021)]) #[]))
noncomputable def ho659 : Params → Obj := (fun x0 => (.mk (.type "function") none (.func (.mk (hq "_law_listed") (hq "_law_listed") (hP (hT 84)) (.stmts (hB (hT 84))) (hS (hT 84)) 3 [] .none .none .none (.str (hq "law_nz0498_01") 932) none (.ref 619) .none 0)) #[]))
noncomputable def ho660 : Params → Obj := (fun x0 => (.mk (.type "tuple") none (.seq #[] 0) #[]))
noncomputable def ho661 : Params → Obj := (fun x0 => (.mk .none none (.fields #[]) #[]))
noncomputable def ho662 : Params → Obj := (fun x0 => (.mk (.type "tuple") none (.seq #[(.str (hq "made") 1026), (.str (hq "v") 1027), (.str (hq "wanted") 1028), (.str (hq "step") 1029), (.str (hq "heads") 1030)] 0) #[]))
noncomputable def ho663 : Params → Obj := (fun x0 => (.mk (.type "tuple") none (.seq #[] 0) #[]))
noncomputable def ho664 : Params → Obj := (fun x0 => (.mk .none none (.func (.mk (hq "_law_list_right") (hq "_law_list_right") (hP (hT 85)) (.stmts (hB (hT 85))) (hS (hT 85)) 0 [] .none .none .none .none none .none .none 0)) #[]))
noncomputable def ho665 : Params → Obj := (fun x0 => (.mk (.type "code") none (.fields #[(.str (hq "_law_list_right") 1023), (.str (hq "_law_list_right") 1024), (.str (hq "/claim/cut.py") 1025), (.int 579 0), (.int 2 0), (.int 0 0), (.int 0 0), (.int 3 0), (.ref 621), (.bool Bool.true), (.int 181 0), (.ref 622), .none, (.ref 623), (.ref 624), (.ref 625), (.int 1031 0), (.int 579 0), (.str (hq "/claim/cut.py") 1032)]) #[]))
noncomputable def ho666 : Params → Obj := (fun x0 => (.mk (.type "function") none (.func (.mk (hq "_law_list_right") (hq "_law_list_right") (hP (hT 85)) (.stmts (hB (hT 85))) (hS (hT 85)) 3 [] .none .none .none (.str (hq "law_nz0498_01") 932) none (.ref 626) .none 0)) #[]))
noncomputable def ho667 : Params → Obj := (fun x0 => (.mk (.type "tuple") none (.seq #[] 0) #[]))
noncomputable def ho668 : Params → Obj := (fun x0 => (.mk .none none (.fields #[]) #[]))
noncomputable def ho669 : Params → Obj := (fun x0 => (.mk (.type "tuple") none (.seq #[(.str (hq "v") 1037), (.str (hq "kind") 1038), (.str (hq "made") 1039), (.str (hq "fault") 1040)] 0) #[]))
noncomputable def ho670 : Params → Obj := (fun x0 => (.mk (.type "tuple") none (.seq #[] 0) #[]))
noncomputable def ho671 : Params → Obj := (fun x0 => (.mk .none none (.func (.mk (hq "_law_made") (hq "_law_made") (hP (hT 86)) (.stmts (hB (hT 86))) (hS (hT 86)) 0 [] .none .none .none .none none .none .none 0)) #[]))
noncomputable def ho672 : Params → Obj := (fun x0 => (.mk (.type "code") none (.fields #[(.str (hq "_law_made") 1034), (.str (hq "_law_made") 1035), (.str (hq "/claim/cut.py") 1036), (.int 590 0), (.int 2 0), (.int 0 0), (.int 0 0), (.int 3 0), (.ref 628), (.bool Bool.true), (.int 181 0), (.ref 629), .none, (.ref 630), (.ref 631), (.ref 632), (.int 1041 0), (.int 590 0), (.str (hq "/claim/cut.py") 1042)]) #[]))
noncomputable def ho673 : Params → Obj := (fun x0 => (.mk (.type "function") none (.func (.mk (hq "_law_made") (hq "_law_made") (hP (hT 86)) (.stmts (hB (hT 86))) (hS (hT 86)) 3 [] .none .none .none (.str (hq "law_nz0498_01") 932) none (.ref 633) .none 0)) #[]))
noncomputable def ho674 : Params → Obj := (fun x0 => (.mk (.type "tuple") none (.seq #[] 0) #[]))
noncomputable def ho675 : Params → Obj := (fun x0 => (.mk .none none (.fields #[]) #[]))
noncomputable def ho676 : Params → Obj := (fun x0 => (.mk (.type "tuple") none (.seq #[(.str (hq "v") 1047), (.str (hq "texts") 1048), (.str (hq "item") 1049)] 0) #[]))
noncomputable def ho677 : Params → Obj := (fun x0 => (.mk (.type "tuple") none (.seq #[] 0) #[]))
noncomputable def ho678 : Params → Obj := (fun x0 => (.mk .none none (.func (.mk (hq "_law_texts") (hq "_law_texts") (hP (hT 87)) (.stmts (hB (hT 87))) (hS (hT 87)) 0 [] .none .none .none .none none .none .none 0)) #[]))
noncomputable def ho679 : Params → Obj := (fun x0 => (.mk (.type "code") none (.fields #[(.str (hq "_law_texts") 1044), (.str (hq "_law_texts") 1045), (.str (hq "/claim/cut.py") 1046), (.int 596 0), (.int 1 0), (.int 0 0), (.int 0 0), (.int 3 0), (.ref 635), (.bool Bool.true), (.int 181 0), (.ref 636), .none, (.ref 637), (.ref 638), (.ref 639), (.int 1050 0), (.int 596 0), (.str (hq "/claim/cut.py") 1051)]) #[]))
noncomputable def ho680 : Params → Obj := (fun x0 => (.mk (.type "function") none (.func (.mk (hq "_law_texts") (hq "_law_texts") (hP (hT 87)) (.stmts (hB (hT 87))) (hS (hT 87)) 3 [] .none .none .none (.str (hq "law_nz0498_01") 932) none (.ref 640) .none 0)) #[]))
noncomputable def ho681 : Params → Obj := (fun x0 => (.mk (.type "tuple") none (.seq #[] 0) #[]))
noncomputable def ho682 : Params → Obj := (fun x0 => (.mk .none none (.fields #[]) #[]))
noncomputable def ho683 : Params → Obj := (fun x0 => (.mk (.type "tuple") none (.seq #[(.str (hq "v") 1056), (.str (hq "refused") 1057), (.str (hq "said") 1058), (.str (hq "made") 1059), (.str (hq "texts") 1060)] 0) #[]))
noncomputable def ho684 : Params → Obj := (fun x0 => (.mk (.type "tuple") none (.seq #[] 0) #[]))
noncomputable def ho685 : Params → Obj := (fun x0 => (.mk .none none (.func (.mk (hq "_law_kinds_right") (hq "_law_kinds_right") (hP (hT 88)) (.stmts (hB (hT 88))) (hS (hT 88)) 0 [] .none .none .none .none none .none .none 0)) #[]))
noncomputable def ho686 : Params → Obj := (fun x0 => (.mk (.type "code") none (.fields #[(.str (hq "_law_kinds_right") 1053), (.str (hq "_law_kinds_right") 1054), (.str (hq "/claim/cut.py") 1055), (.int 606 0), (.int 1 0), (.int 0 0), (.int 0 0), (.int 3 0), (.ref 642), (.bool Bool.true), (.int 181 0), (.ref 643), .none, (.ref 644), (.ref 645), (.ref 646), (.int 1061 0), (.int 606 0), (.str (hq "/claim/cut.py") 1062)]) #[]))
noncomputable def ho687 : Params → Obj := (fun x0 => (.mk (.type "function") none (.func (.mk (hq "_law_kinds_right") (hq "_law_kinds_right") (hP (hT 88)) (.stmts (hB (hT 88))) (hS (hT 88)) 3 [] .none .none .none (.str (hq "law_nz0498_01") 932) none (.ref 647) .none 0)) #[]))
noncomputable def ho688 : Params → Obj := (fun x0 => (.mk (.type "tuple") none (.seq #[] 0) #[]))
noncomputable def ho689 : Params → Obj := (fun x0 => (.mk .none none (.fields #[]) #[]))
noncomputable def ho690 : Params → Obj := (fun x0 => (.mk (.type "tuple") none (.seq #[(.str (hq "script") 1067), (.str (hq "state") 1068), (.str (hq "law_lap") 1069), (.str (hq "v") 1070), (.str (hq "found") 1071), (.str (hq "fault") 1072), (.str (hq "told") 1073)] 0) #[]))
noncomputable def ho691 : Params → Obj := (fun x0 => (.mk (.type "tuple") none (.seq #[] 0) #[]))
noncomputable def ho692 : Params → Obj := (fun x0 => (.mk .none none (.func (.mk (hq "law") (hq "law") (hP (hT 89)) (.stmts (hB (hT 89))) (hS (hT 89)) 0 [] .none .none .none .none none .none .none 0)) #[]))
noncomputable def ho693 : Params → Obj := (fun x0 => (.mk (.type "code") none (.fields #[(.str (hq "law") 1064), (.str (hq "law") 1065), (.str (hq "/claim/cut.py") 1066), (.int 628 0), (.int 1 0), (.int 0 0), (.int 0 0), (.int 3 0), (.ref 649), (.bool Bool.true), (.int 181 0), (.ref 650), .none, (.ref 651), (.ref 652), (.ref 653), (.int 1074 0), (.int 628 0), (.str (hq "/claim/cut.py") 1075)]) #[]))
noncomputable def ho694 : Params → Obj := (fun x0 => (.mk (.type "function") none (.func (.mk (hq "law") (hq "law") (hP (hT 89)) (.stmts (hB (hT 89))) (hS (hT 89)) 3 [] .none .none .none (.str (hq "law_nz0498_01") 932) none (.ref 654) .none 0)) #[]))
noncomputable def hheap694 : (Params → PySem.Heap) := (fun x0 => (.mk (@Array.mk PySem.Obj [(@PySem.W.boot_o_0 x0), (@PySem.W.boot_o_1 x0), (@ho47 x0), (@ho457 x0), (@PySem.W.boot_o_4 x0), (@PySem.W.boot_o_5 x0), (@PySem.W.boot_o_6 x0), (@PySem.W.boot_o_7 x0), (@PySem.W.boot_o_8 x0), (@PySem.W.boot_o_9 x0), (@PySem.W.boot_o_10 x0), (@ho43 x0), (@ho458 x0), (@ho45 x0), (@ho46 x0), (@ho50 x0), (@ho51 x0), (@ho52 x0), (@ho53 x0), (@ho54 x0), (@ho55 x0), (@ho56 x0), (@ho57 x0), (@ho58 x0), (@ho59 x0), (@ho60 x0), (@ho61 x0), (@ho62 x0), (@ho63 x0), (@ho64 x0), (@ho65 x0), (@ho66 x0), (@ho67 x0), (@ho68 x0), (@ho69 x0), (@ho70 x0), (@ho71 x0), (@ho72 x0), (@ho73 x0), (@ho74 x0), (@ho75 x0), (@ho76 x0), (@ho77 x0), (@ho78 x0), (@ho79 x0), (@ho80 x0), (@ho81 x0), (@ho82 x0), (@ho83 x0), (@ho84 x0), (@ho85 x0), (@ho86 x0), (@ho87 x0), (@ho88 x0), (@ho89 x0), (@ho90 x0), (@ho91 x0), (@ho92 x0), (@ho93 x0), (@ho94 x0), (@ho95 x0), (@ho96 x0), (@ho97 x0), (@ho98 x0), (@ho99 x0), (@ho100 x0), (@ho101 x0), (@ho102 x0), (@ho103 x0), (@ho104 x0), (@ho105 x0), (@ho106 x0), (@ho107 x0), (@ho108 x0), (@ho109 x0), (@ho110 x0), (@ho111 x0), (@ho112 x0), (@ho113 x0), (@ho114 x0), (@ho115 x0), (@ho116 x0), (@ho117 x0), (@ho118 x0), (@ho119 x0), (@ho120 x0), (@ho121 x0), (@ho122 x0), (@ho123 x0), (@ho124 x0), (@ho125 x0), (@ho126 x0), (@ho127 x0), (@ho128 x0), (@ho129 x0), (@ho130 x0), (@ho131 x0), (@ho132 x0), (@ho133 x0), (@ho134 x0), (@ho135 x0), (@ho136 x0), (@ho137 x0), (@ho138 x0), (@ho139 x0), (@ho140 x0), (@ho141 x0), (@ho142 x0), (@ho143 x0), (@ho144 x0), (@ho145 x0), (@ho146 x0), (@ho147 x0), (@ho148 x0), (@ho149 x0), (@ho150 x0), (@ho151 x0), (@ho152 x0), (@ho153 x0), (@ho154 x0), (@ho155 x0), (@ho156 x0), (@ho157 x0), (@ho158 x0), (@ho159 x0), (@ho160 x0), (@ho161 x0), (@ho162 x0), (@ho163 x0), (@ho164 x0), (@ho165 x0), (@ho166 x0), (@ho167 x0), (@ho168 x0), (@ho169 x0), (@ho170 x0), (@ho171 x0), (@ho172 x0), (@ho173 x0), (@ho174 x0), (@ho175 x0), (@ho176 x0), (@ho177 x0), (@ho178 x0), (@ho179 x0), (@ho180 x0), (@ho181 x0), (@ho182 x0), (@ho183 x0), (@ho184 x0), (@ho185 x0), (@ho186 x0), (@ho187 x0), (@ho188 x0), (@ho189 x0), (@ho190 x0), (@ho191 x0), (@ho192 x0), (@ho193 x0), (@ho194 x0), (@ho195 x0), (@ho196 x0), (@ho197 x0), (@ho198 x0), (@ho199 x0), (@ho200 x0), (@ho201 x0), (@ho202 x0), (@ho203 x0), (@ho204 x0), (@ho205 x0), (@ho206 x0), (@ho207 x0), (@ho208 x0), (@ho209 x0), (@ho210 x0), (@ho211 x0), (@ho212 x0), (@ho213 x0), (@ho214 x0), (@ho215 x0), (@ho216 x0), (@ho217 x0), (@ho218 x0), (@ho219 x0), (@ho220 x0), (@ho221 x0), (@ho222 x0), (@ho223 x0), (@ho224 x0), (@ho225 x0), (@ho226 x0), (@ho227 x0), (@ho228 x0), (@ho229 x0), (@ho230 x0), (@ho231 x0), (@ho232 x0), (@ho233 x0), (@ho234 x0), (@ho235 x0), (@ho236 x0), (@ho237 x0), (@ho238 x0), (@ho239 x0), (@ho240 x0), (@ho241 x0), (@ho242 x0), (@ho243 x0), (@ho244 x0), (@ho245 x0), (@ho246 x0), (@ho247 x0), (@ho248 x0), (@ho249 x0), (@ho250 x0), (@ho251 x0), (@ho252 x0), (@ho253 x0), (@ho254 x0), (@ho255 x0), (@ho256 x0), (@ho257 x0), (@ho258 x0), (@ho259 x0), (@ho260 x0), (@ho261 x0), (@ho262 x0), (@ho263 x0), (@ho264 x0), (@ho265 x0), (@ho266 x0), (@ho267 x0), (@ho268 x0), (@ho269 x0), (@ho270 x0), (@ho271 x0), (@ho272 x0), (@ho273 x0), (@ho274 x0), (@ho275 x0), (@ho276 x0), (@ho277 x0), (@ho278 x0), (@ho279 x0), (@ho280 x0), (@ho281 x0), (@ho282 x0), (@ho283 x0), (@ho284 x0), (@ho285 x0), (@ho286 x0), (@ho287 x0), (@ho288 x0), (@ho289 x0), (@ho290 x0), (@ho291 x0), (@ho292 x0), (@ho293 x0), (@ho294 x0), (@ho295 x0), (@ho296 x0), (@ho299 x0), (@ho300 x0), (@ho301 x0), (@ho302 x0), (@ho303 x0), (@ho304 x0), (@ho305 x0), (@ho306 x0), (@ho307 x0), (@ho308 x0), (@ho309 x0), (@ho310 x0), (@ho311 x0), (@ho312 x0), (@ho313 x0), (@ho314 x0), (@ho315 x0), (@ho316 x0), (@ho317 x0), (@ho318 x0), (@ho319 x0), (@ho320 x0), (@ho321 x0), (@ho322 x0), (@ho323 x0), (@ho324 x0), (@ho325 x0), (@ho326 x0), (@ho327 x0), (@ho328 x0), (@ho329 x0), (@ho330 x0), (@ho331 x0), (@ho332 x0), (@ho333 x0), (@ho334 x0), (@ho335 x0), (@ho336 x0), (@ho337 x0), (@ho338 x0), (@ho339 x0), (@ho340 x0), (@ho341 x0), (@ho342 x0), (@ho343 x0), (@ho344 x0), (@ho345 x0), (@ho346 x0), (@ho347 x0), (@ho348 x0), (@ho349 x0), (@ho350 x0), (@ho351 x0), (@ho352 x0), (@ho353 x0), (@ho354 x0), (@ho355 x0), (@ho356 x0), (@ho357 x0), (@ho358 x0), (@ho359 x0), (@ho360 x0), (@ho361 x0), (@ho362 x0), (@ho363 x0), (@ho364 x0), (@ho365 x0), (@ho366 x0), (@ho367 x0), (@ho368 x0), (@ho369 x0), (@ho370 x0), (@ho371 x0), (@ho372 x0), (@ho373 x0), (@ho374 x0), (@ho375 x0), (@ho376 x0), (@ho377 x0), (@ho378 x0), (@ho379 x0), (@ho380 x0), (@ho381 x0), (@ho382 x0), (@ho383 x0), (@ho384 x0), (@ho385 x0), (@ho386 x0), (@ho387 x0), (@ho388 x0), (@ho389 x0), (@ho390 x0), (@ho391 x0), (@ho392 x0), (@ho393 x0), (@ho394 x0), (@ho395 x0), (@ho396 x0), (@ho397 x0), (@ho398 x0), (@ho399 x0), (@ho400 x0), (@ho401 x0), (@ho402 x0), (@ho403 x0), (@ho404 x0), (@ho405 x0), (@ho406 x0), (@ho407 x0), (@ho408 x0), (@ho409 x0), (@ho410 x0), (@ho411 x0), (@ho412 x0), (@ho413 x0), (@ho414 x0), (@ho415 x0), (@ho416 x0), (@ho417 x0), (@ho418 x0), (@ho419 x0), (@ho420 x0), (@ho421 x0), (@ho422 x0), (@ho423 x0), (@ho424 x0), (@ho425 x0), (@ho426 x0), (@ho427 x0), (@ho428 x0), (@ho429 x0), (@ho430 x0), (@ho431 x0), (@ho432 x0), (@ho433 x0), (@ho434 x0), (@ho435 x0), (@ho436 x0), (@ho437 x0), (@ho438 x0), (@ho439 x0), (@ho440 x0), (@ho441 x0), (@ho442 x0), (@ho443 x0), (@ho444 x0), (@ho445 x0), (@ho446 x0), (@ho447 x0), (@ho448 x0), (@ho449 x0), (@ho450 x0), (@ho451 x0), (@ho452 x0), (@ho453 x0), (@ho454 x0), (@ho455 x0), (@ho456 x0), (@ho459 x0), (@ho460 x0), (@ho461 x0), (@ho462 x0), (@ho463 x0), (@ho464 x0), (@ho465 x0), (@ho466 x0), (@ho467 x0), (@ho468 x0), (@ho469 x0), (@ho470 x0), (@ho471 x0), (@ho472 x0), (@ho473 x0), (@ho474 x0), (@ho475 x0), (@ho476 x0), (@ho477 x0), (@ho478 x0), (@ho479 x0), (@ho480 x0), (@ho481 x0), (@ho482 x0), (@ho483 x0), (@ho484 x0), (@ho485 x0), (@ho486 x0), (@ho487 x0), (@ho488 x0), (@ho489 x0), (@ho490 x0), (@ho491 x0), (@ho492 x0), (@ho493 x0), (@ho494 x0), (@ho495 x0), (@ho496 x0), (@ho497 x0), (@ho498 x0), (@ho499 x0), (@ho500 x0), (@ho501 x0), (@ho502 x0), (@ho503 x0), (@ho504 x0), (@ho505 x0), (@ho506 x0), (@ho507 x0), (@ho508 x0), (@ho509 x0), (@ho510 x0), (@ho511 x0), (@ho512 x0), (@ho513 x0), (@ho514 x0), (@ho515 x0), (@ho516 x0), (@ho517 x0), (@ho518 x0), (@ho519 x0), (@ho520 x0), (@ho521 x0), (@ho522 x0), (@ho523 x0), (@ho524 x0), (@ho525 x0), (@ho526 x0), (@ho527 x0), (@ho528 x0), (@ho529 x0), (@ho530 x0), (@ho531 x0), (@ho532 x0), (@ho533 x0), (@ho534 x0), (@ho535 x0), (@ho536 x0), (@ho537 x0), (@ho538 x0), (@ho539 x0), (@ho540 x0), (@ho541 x0), (@ho542 x0), (@ho543 x0), (@ho544 x0), (@ho545 x0), (@ho546 x0), (@ho547 x0), (@ho548 x0), (@ho549 x0), (@ho550 x0), (@ho551 x0), (@ho552 x0), (@ho553 x0), (@ho554 x0), (@ho555 x0), (@ho556 x0), (@ho557 x0), (@ho558 x0), (@ho559 x0), (@ho560 x0), (@ho561 x0), (@ho562 x0), (@ho563 x0), (@ho564 x0), (@ho565 x0), (@ho566 x0), (@ho567 x0), (@ho568 x0), (@ho569 x0), (@ho570 x0), (@ho571 x0), (@ho572 x0), (@ho573 x0), (@ho574 x0), (@ho575 x0), (@ho576 x0), (@ho577 x0), (@ho578 x0), (@ho579 x0), (@ho580 x0), (@ho581 x0), (@ho582 x0), (@ho583 x0), (@ho584 x0), (@ho585 x0), (@ho586 x0), (@ho587 x0), (@ho588 x0), (@ho589 x0), (@ho590 x0), (@ho591 x0), (@ho592 x0), (@ho593 x0), (@ho594 x0), (@ho595 x0), (@ho596 x0), (@ho597 x0), (@ho598 x0), (@ho599 x0), (@ho600 x0), (@ho601 x0), (@ho602 x0), (@ho603 x0), (@ho604 x0), (@ho605 x0), (@ho606 x0), (@ho607 x0), (@ho608 x0), (@ho609 x0), (@ho610 x0), (@ho611 x0), (@ho612 x0), (@ho613 x0), (@ho614 x0), (@ho615 x0), (@ho616 x0), (@ho617 x0), (@ho618 x0), (@ho619 x0), (@ho620 x0), (@ho621 x0), (@ho622 x0), (@ho623 x0), (@ho624 x0), (@ho625 x0), (@ho626 x0), (@ho627 x0), (@ho628 x0), (@ho629 x0), (@ho630 x0), (@ho631 x0), (@ho632 x0), (@ho633 x0), (@ho634 x0), (@ho635 x0), (@ho636 x0), (@ho637 x0), (@ho638 x0), (@ho639 x0), (@ho640 x0), (@ho641 x0), (@ho642 x0), (@ho643 x0), (@ho644 x0), (@ho645 x0), (@ho646 x0), (@ho647 x0), (@ho648 x0), (@ho649 x0), (@ho650 x0), (@ho651 x0), (@ho652 x0), (@ho653 x0), (@ho654 x0), (@ho655 x0), (@ho656 x0), (@ho657 x0), (@ho658 x0), (@ho659 x0), (@ho660 x0), (@ho661 x0), (@ho662 x0), (@ho663 x0), (@ho664 x0), (@ho665 x0), (@ho666 x0), (@ho667 x0), (@ho668 x0), (@ho669 x0), (@ho670 x0), (@ho671 x0), (@ho672 x0), (@ho673 x0), (@ho674 x0), (@ho675 x0), (@ho676 x0), (@ho677 x0), (@ho678 x0), (@ho679 x0), (@ho680 x0), (@ho681 x0), (@ho682 x0), (@ho683 x0), (@ho684 x0), (@ho685 x0), (@ho686 x0), (@ho687 x0), (@ho688 x0), (@ho689 x0), (@ho690 x0), (@ho691 x0), (@ho692 x0), (@ho693 x0), (@ho694 x0)]) (.mk [] [] [] 0 [] [] Bool.false #[] [] 0 Bool.false Bool.false Bool.false 0 [2000, 10, 10] Bool.false 0 Bool.true [] [] 0 Bool.false)))
noncomputable def ho44 : Params → Obj := (fun x0 => (.mk .none none (.fields #[]) #[]))
noncomputable def hheap46 : (Params → PySem.Heap) := (fun x0 => (.mk (@Array.mk PySem.Obj [(@PySem.W.boot_o_0 x0), (@PySem.W.boot_o_1 x0), (@PySem.W.boot_o_2 x0), (@PySem.W.boot_o_3 x0), (@PySem.W.boot_o_4 x0), (@PySem.W.boot_o_5 x0), (@PySem.W.boot_o_6 x0), (@PySem.W.boot_o_7 x0), (@PySem.W.boot_o_8 x0), (@PySem.W.boot_o_9 x0), (@PySem.W.boot_o_10 x0), (@ho43 x0), (@ho44 x0), (@ho45 x0), (@ho46 x0)]) (.mk [] [] [] 0 [] [] Bool.false #[] [] 0 Bool.false Bool.false Bool.false 0 [2000, 10, 10] Bool.false 0 Bool.true [] [] 0 Bool.false)))
noncomputable def henv41 : PySem.Env := (.mk (@PySem.Module.scope (@PySem.Program.main hPG)) PySem.mainNs PySem.mainNs [] PySem.Str.empty none (.ref 13) (some (14 : PySem.Addr)) (0 : PySem.Addr))
theorem hproof46 : (∀ (x0 : PySem.World), (@Eq (∀ (x1 : PySem.OsState), (@Option (@Prod PySem.Shared PySem.Thread))) (fun (x1 : PySem.OsState) => (@PySem.W.topGo PySem.treeTable hPG x0 (nat_lit 11) (some (.ref 6)) (nat_lit 12) (.mk (@PySem.W.boot_heap (@PySem.World.params x0)) (@Array.mk PySem.GenState []) PySem.W.boot_drawn PySem.W.boot_toks x1) (@PySem.W.topStub hPG))) (fun (x1 : PySem.OsState) => (some ((.mk (@hheap46 (@PySem.World.params x0)) (@Array.mk PySem.GenState []) (.mk 0 0 0 0) (nat_lit 187) x1), (.mk (@PySem.denote PySem.treeTable (.body (@PySem.W.behindTheImports hPG) henv41)) (.body (@PySem.W.behindTheImports hPG) henv41) (.mk 0 0 0 0) [(@PySem.W.topFrame (.mk 0 0 0 0))])))))) := by intros; kernel_rfl
noncomputable def htree46 : (Params → PySem.W.BT) := (fun x0 => (.node (@PySem.W.boot_o_0 x0) (.node (@PySem.W.boot_o_1 x0) (.node (@PySem.W.boot_o_3 x0) (.node (@PySem.W.boot_o_7 x0) PySem.W.BT.nil PySem.W.BT.nil) (.node (ho43 x0) PySem.W.BT.nil PySem.W.BT.nil)) (.node (@PySem.W.boot_o_5 x0) (.node (@PySem.W.boot_o_9 x0) PySem.W.BT.nil PySem.W.BT.nil) (.node (ho45 x0) PySem.W.BT.nil PySem.W.BT.nil))) (.node (@PySem.W.boot_o_2 x0) (.node (@PySem.W.boot_o_4 x0) (.node (@PySem.W.boot_o_8 x0) PySem.W.BT.nil PySem.W.BT.nil) (.node (ho44 x0) PySem.W.BT.nil PySem.W.BT.nil)) (.node (@PySem.W.boot_o_6 x0) (.node (@PySem.W.boot_o_10 x0) PySem.W.BT.nil PySem.W.BT.nil) (.node (ho46 x0) PySem.W.BT.nil PySem.W.BT.nil)))))
theorem hproof47 : (∀ (x0 : PySem.World), (@Eq (∀ (x1 : PySem.OsState), (@Option (@Prod PySem.Flow (@Prod PySem.Shared (@Prod PySem.Code PySem.Pos))))) (fun (x1 : PySem.OsState) => (@PySem.W.segRun PySem.treeTable hPG x0 (nat_lit 11) (some (.ref 6)) (nat_lit 1) (nat_lit 1) (.mk (@hheap46 (@PySem.World.params x0)) (@Array.mk PySem.GenState []) (.mk 0 0 0 0) (nat_lit 187) x1) (@PySem.W.blockOf (@PySem.W.behindTheImports hPG) henv41 (.body (@PySem.W.behindTheImports hPG) henv41) (.mk 0 0 0 0) [(@PySem.W.topFrame (.mk 0 0 0 0))]))) (fun (x1 : PySem.OsState) => (some (PySem.Flow.next, ((@PySem.W.SharedT.abs (.mk (@htree46 (@PySem.World.params x0)) (nat_lit 15) (.mk [] [] [] 0 [] [] Bool.false #[] [] 0 Bool.false Bool.false Bool.false 0 [2000, 10, 10] Bool.false 0 Bool.true [] [] 0 Bool.false) (@Array.mk PySem.GenState []) (.mk 0 0 0 0) (nat_lit 187) x1)), ((.body (@PySem.W.behindTheImports hPG) henv41), (.mk 0 0 0 0)))))))) := by intros; kernel_rfl
noncomputable def ho48 : Params → Obj := (fun x0 => (.mk (.type "dict") none (.dict #[(.mk (@PySem.PyData.keyHash x0 (hq "__name__")) (.str (hq "__name__") 165) (.str (hq "vectorcove.numtext") 355)), (.mk (@PySem.PyData.keyHash x0 (hq "__doc__")) (.str (hq "__doc__") 166) .none), (.mk (@PySem.PyData.keyHash x0 (hq "__package__")) (.str (hq "__package__") 167) .none), (.mk (@PySem.PyData.keyHash x0 (hq "__loader__")) (.str (hq "__loader__") 168) (.builtin "__main__.__loader__#opaque")), (.mk (@PySem.PyData.keyHash x0 (hq "__spec__")) (.str (hq "__spec__") 169) .none), (.mk (@PySem.PyData.keyHash x0 (hq "__annotations__")) (.str (hq "__annotations__") 170) (.ref 6)), (.mk (@PySem.PyData.keyHash x0 (hq "__builtins__")) (.str (hq "__builtins__") 171) (.ref 4)), (.mk (@PySem.PyData.keyHash x0 (hq "__file__")) (.str (hq "__file__") 173) (.str (hq "/claim/cut.py") 172)), (.mk (@PySem.PyData.keyHash x0 (hq "__cached__")) (.str (hq "__cached__") 174) .none), (.mk (@PySem.PyData.keyHash x0 (hq "_wall")) (.str (hq "_wall") 193) (.ref 21)), (.mk (@PySem.PyData.keyHash x0 (hq "get_attr")) (.str (hq "get_attr") 203) (.ref 28)), (.mk (@PySem.PyData.keyHash x0 (hq "names_of")) (.str (hq "names_of") 209) (.ref 33)), (.mk (@PySem.PyData.keyHash x0 (hq "dim_of")) (.str (hq "dim_of") 217) (.ref 40)), (.mk (@PySem.PyData.keyHash x0 (hq "dimnames_of")) (.str (hq "dimnames_of") 223) (.ref 45)), (.mk (@PySem.PyData.keyHash x0 (hq "CoveError")) (.str (hq "CoveError") 245) (.ref 55)), (.mk (@PySem.PyData.keyHash x0 (hq "Refusal")) (.str (hq "Refusal") 270) (.ref 75)), (.mk (@PySem.PyData.keyHash x0 (hq "NAN")) (.str (hq "NAN") 275) (.ref 78)), (.mk (@PySem.PyData.keyHash x0 (hq "INF")) (.str (hq "INF") 278) (.ref 79)), (.mk (@PySem.PyData.keyHash x0 (hq "ZERO")) (.str (hq "ZERO") 281) (.ref 80)), (.mk (@PySem.PyData.keyHash x0 (hq "gcd")) (.str (hq "gcd") 289) (.ref 87)), (.mk (@PySem.PyData.keyHash x0 (hq "make")) (.str (hq "make") 298) (.ref 94)), (.mk (@PySem.PyData.keyHash x0 (hq "from_int")) (.str (hq "from_int") 305) (.ref 101)), (.mk (@PySem.PyData.keyHash x0 (hq "is_na")) (.str (hq "is_na") 312) (.ref 108)), (.mk (@PySem.PyData.keyHash x0 (hq "is_finite")) (.str (hq "is_finite") 319) (.ref 115)), (.mk (@PySem.PyData.keyHash x0 (hq "neg")) (.str (hq "neg") 326) (.ref 122)), (.mk (@PySem.PyData.keyHash x0 (hq "to_whole")) (.str (hq "to_whole") 334) (.ref 129)), (.mk (@PySem.PyData.keyHash x0 (hq "nearest_whole")) (.str (hq "nearest_whole") 344) (.ref 136)), (.mk (@PySem.PyData.keyHash x0 (hq "exponent")) (.str (hq "exponent") 354) (.ref 143)), (.mk (@PySem.PyData.keyHash x0 (hq "MOST_EXPONENT")) (.str (hq "MOST_EXPONENT") 358) (.int 4096 357)), (.mk (@PySem.PyData.keyHash x0 (hq "whole_text")) (.str (hq "whole_text") 368) (.ref 150)), (.mk (@PySem.PyData.keyHash x0 (hq "special_text")) (.str (hq "special_text") 375) (.ref 157)), (.mk (@PySem.PyData.keyHash x0 (hq "scaled")) (.str (hq "scaled") 385) (.ref 164)), (.mk (@PySem.PyData.keyHash x0 (hq "significant")) (.str (hq "significant") 395) (.ref 171)), (.mk (@PySem.PyData.keyHash x0 (hq "without_tail")) (.str (hq "without_tail") 403) (.ref 178)), (.mk (@PySem.PyData.keyHash x0 (hq "scientific_text")) (.str (hq "scientific_text") 415) (.ref 185)), (.mk (@PySem.PyData.keyHash x0 (hq "fixed_text")) (.str (hq "fixed_text") 425) (.ref 192)), (.mk (@PySem.PyData.keyHash x0 (hq "measures")) (.str (hq "measures") 438) (.ref 199)), (.mk (@PySem.PyData.keyHash x0 (hq "chosen_form")) (.str (hq "chosen_form") 455) (.ref 206)), (.mk (@PySem.PyData.keyHash x0 (hq "formed")) (.str (hq "formed") 464) (.ref 213)), (.mk (@PySem.PyData.keyHash x0 (hq "common_texts")) (.str (hq "common_texts") 470) (.ref 218)), (.mk (@PySem.PyData.keyHash x0 (hq "number_text")) (.str (hq "number_text") 479) (.ref 226)), (.mk (@PySem.PyData.keyHash x0 (hq "digits_value")) (.str (hq "digits_value") 489) (.ref 233)), (.mk (@PySem.PyData.keyHash x0 (hq "digit_run")) (.str (hq "digit_run") 498) (.ref 240)), (.mk (@PySem.PyData.keyHash x0 (hq "exponent_value")) (.str (hq "exponent_value") 507) (.ref 247)), (.mk (@PySem.PyData.keyHash x0 (hq "powered")) (.str (hq "powered") 516) (.ref 254)), (.mk (@PySem.PyData.keyHash x0 (hq "unsigned_number")) (.str (hq "unsigned_number") 535) (.ref 261))] 46) #[]))
noncomputable def ho49 : Params → Obj := (fun x0 => (.mk .none none (.fields #[(.int 1 0), (.int 0 0), (.ref 20), (.int 5 0), (.int 0 0), (.ref 27), (.int 9 0), (.int 0 0), (.ref 32), (.int 25 0), (.int 0 0), (.ref 39), (.int 30 0), (.int 0 0), (.ref 44), (.int 36 0), (.int 0 0), (.ref 51), (.int 38 0), (.int 0 0), (.ref 64), (.int 46 0), (.int 0 0), (.ref 86), (.int 50 0), (.int 0 0), (.ref 93), (.int 60 0), (.int 0 0), (.ref 100), (.int 64 0), (.int 0 0), (.ref 107), (.int 66 0), (.int 0 0), (.ref 114), (.int 68 0), (.int 0 0), (.ref 121), (.int 72 0), (.int 0 0), (.ref 128), (.int 77 0), (.int 0 0), (.ref 135), (.int 83 0), (.int 0 0), (.ref 142), (.int 96 0), (.int 0 0), (.ref 149), (.int 107 0), (.int 0 0), (.ref 156), (.int 115 0), (.int 0 0), (.ref 163), (.int 120 0), (.int 0 0), (.ref 170), (.int 129 0), (.int 0 0), (.ref 177), (.int 134 0), (.int 0 0), (.ref 184), (.int 141 0), (.int 0 0), (.ref 191), (.int 149 0), (.int 0 0), (.ref 198), (.int 156 0), (.int 0 0), (.ref 205), (.int 176 0), (.int 0 0), (.ref 212), (.int 183 0), (.int 0 0), (.ref 217), (.int 187 0), (.int 0 0), (.ref 225), (.int 189 0), (.int 0 0), (.ref 232), (.int 194 0), (.int 0 0), (.ref 239), (.int 198 0), (.int 0 0), (.ref 246), (.int 208 0), (.int 0 0), (.ref 253), (.int 218 0), (.int 0 0), (.ref 260)]) #[]))
noncomputable def htree296 : (Params → PySem.W.BT) := (fun x0 => (.node (@PySem.W.boot_o_0 x0) (.node (@PySem.W.boot_o_1 x0) (.node (ho48 x0) (.node (@PySem.W.boot_o_7 x0) (.node (ho50 x0) (.node (ho66 x0) (.node (ho98 x0) (.node (ho162 x0) (.node (ho290 x0) PySem.W.BT.nil PySem.W.BT.nil) PySem.W.BT.nil) (.node (ho226 x0) PySem.W.BT.nil PySem.W.BT.nil)) (.node (ho130 x0) (.node (ho194 x0) PySem.W.BT.nil PySem.W.BT.nil) (.node (ho258 x0) PySem.W.BT.nil PySem.W.BT.nil))) (.node (ho82 x0) (.node (ho114 x0) (.node (ho178 x0) PySem.W.BT.nil PySem.W.BT.nil) (.node (ho242 x0) PySem.W.BT.nil PySem.W.BT.nil)) (.node (ho146 x0) (.node (ho210 x0) PySem.W.BT.nil PySem.W.BT.nil) (.node (ho274 x0) PySem.W.BT.nil PySem.W.BT.nil)))) (.node (ho58 x0) (.node (ho74 x0) (.node (ho106 x0) (.node (ho170 x0) PySem.W.BT.nil PySem.W.BT.nil) (.node (ho234 x0) PySem.W.BT.nil PySem.W.BT.nil)) (.node (ho138 x0) (.node (ho202 x0) PySem.W.BT.nil PySem.W.BT.nil) (.node (ho266 x0) PySem.W.BT.nil PySem.W.BT.nil))) (.node (ho90 x0) (.node (ho122 x0) (.node (ho186 x0) PySem.W.BT.nil PySem.W.BT.nil) (.node (ho250 x0) PySem.W.BT.nil PySem.W.BT.nil)) (.node (ho154 x0) (.node (ho218 x0) PySem.W.BT.nil PySem.W.BT.nil) (.node (ho282 x0) PySem.W.BT.nil PySem.W.BT.nil))))) (.node (ho43 x0) (.node (ho54 x0) (.node (ho70 x0) (.node (ho102 x0) (.node (ho166 x0) (.node (ho294 x0) PySem.W.BT.nil PySem.W.BT.nil) PySem.W.BT.nil) (.node (ho230 x0) PySem.W.BT.nil PySem.W.BT.nil)) (.node (ho134 x0) (.node (ho198 x0) PySem.W.BT.nil PySem.W.BT.nil) (.node (ho262 x0) PySem.W.BT.nil PySem.W.BT.nil))) (.node (ho86 x0) (.node (ho118 x0) (.node (ho182 x0) PySem.W.BT.nil PySem.W.BT.nil) (.node (ho246 x0) PySem.W.BT.nil PySem.W.BT.nil)) (.node (ho150 x0) (.node (ho214 x0) PySem.W.BT.nil PySem.W.BT.nil) (.node (ho278 x0) PySem.W.BT.nil PySem.W.BT.nil)))) (.node (ho62 x0) (.node (ho78 x0) (.node (ho110 x0) (.node (ho174 x0) PySem.W.BT.nil PySem.W.BT.nil) (.node (ho238 x0) PySem.W.BT.nil PySem.W.BT.nil)) (.node (ho142 x0) (.node (ho206 x0) PySem.W.BT.nil PySem.W.BT.nil) (.node (ho270 x0) PySem.W.BT.nil PySem.W.BT.nil))) (.node (ho94 x0) (.node (ho126 x0) (.node (ho190 x0) PySem.W.BT.nil PySem.W.BT.nil) (.node (ho254 x0) PySem.W.BT.nil PySem.W.BT.nil)) (.node (ho158 x0) (.node (ho222 x0) PySem.W.BT.nil PySem.W.BT.nil) (.node (ho286 x0) PySem.W.BT.nil PySem.W.BT.nil)))))) (.node (@PySem.W.boot_o_5 x0) (.node (@PySem.W.boot_o_9 x0) (.node (ho52 x0) (.node (ho68 x0) (.node (ho100 x0) (.node (ho164 x0) (.node (ho292 x0) PySem.W.BT.nil PySem.W.BT.nil) PySem.W.BT.nil) (.node (ho228 x0) PySem.W.BT.nil PySem.W.BT.nil)) (.node (ho132 x0) (.node (ho196 x0) PySem.W.BT.nil PySem.W.BT.nil) (.node (ho260 x0) PySem.W.BT.nil PySem.W.BT.nil))) (.node (ho84 x0) (.node (ho116 x0) (.node (ho180 x0) PySem.W.BT.nil PySem.W.BT.nil) (.node (ho244 x0) PySem.W.BT.nil PySem.W.BT.nil)) (.node (ho148 x0) (.node (ho212 x0) PySem.W.BT.nil PySem.W.BT.nil) (.node (ho276 x0) PySem.W.BT.nil PySem.W.BT.nil)))) (.node (ho60 x0) (.node (ho76 x0) (.node (ho108 x0) (.node (ho172 x0) PySem.W.BT.nil PySem.W.BT.nil) (.node (ho236 x0) PySem.W.BT.nil PySem.W.BT.nil)) (.node (ho140 x0) (.node (ho204 x0) PySem.W.BT.nil PySem.W.BT.nil) (.node (ho268 x0) PySem.W.BT.nil PySem.W.BT.nil))) (.node (ho92 x0) (.node (ho124 x0) (.node (ho188 x0) PySem.W.BT.nil PySem.W.BT.nil) (.node (ho252 x0) PySem.W.BT.nil PySem.W.BT.nil)) (.node (ho156 x0) (.node (ho220 x0) PySem.W.BT.nil PySem.W.BT.nil) (.node (ho284 x0) PySem.W.BT.nil PySem.W.BT.nil))))) (.node (ho45 x0) (.node (ho56 x0) (.node (ho72 x0) (.node (ho104 x0) (.node (ho168 x0) (.node (ho296 x0) PySem.W.BT.nil PySem.W.BT.nil) PySem.W.BT.nil) (.node (ho232 x0) PySem.W.BT.nil PySem.W.BT.nil)) (.node (ho136 x0) (.node (ho200 x0) PySem.W.BT.nil PySem.W.BT.nil) (.node (ho264 x0) PySem.W.BT.nil PySem.W.BT.nil))) (.node (ho88 x0) (.node (ho120 x0) (.node (ho184 x0) PySem.W.BT.nil PySem.W.BT.nil) (.node (ho248 x0) PySem.W.BT.nil PySem.W.BT.nil)) (.node (ho152 x0) (.node (ho216 x0) PySem.W.BT.nil PySem.W.BT.nil) (.node (ho280 x0) PySem.W.BT.nil PySem.W.BT.nil)))) (.node (ho64 x0) (.node (ho80 x0) (.node (ho112 x0) (.node (ho176 x0) PySem.W.BT.nil PySem.W.BT.nil) (.node (ho240 x0) PySem.W.BT.nil PySem.W.BT.nil)) (.node (ho144 x0) (.node (ho208 x0) PySem.W.BT.nil PySem.W.BT.nil) (.node (ho272 x0) PySem.W.BT.nil PySem.W.BT.nil))) (.node (ho96 x0) (.node (ho128 x0) (.node (ho192 x0) PySem.W.BT.nil PySem.W.BT.nil) (.node (ho256 x0) PySem.W.BT.nil PySem.W.BT.nil)) (.node (ho160 x0) (.node (ho224 x0) PySem.W.BT.nil PySem.W.BT.nil) (.node (ho288 x0) PySem.W.BT.nil PySem.W.BT.nil))))))) (.node (ho47 x0) (.node (@PySem.W.boot_o_4 x0) (.node (@PySem.W.boot_o_8 x0) (.node (ho51 x0) (.node (ho67 x0) (.node (ho99 x0) (.node (ho163 x0) (.node (ho291 x0) PySem.W.BT.nil PySem.W.BT.nil) PySem.W.BT.nil) (.node (ho227 x0) PySem.W.BT.nil PySem.W.BT.nil)) (.node (ho131 x0) (.node (ho195 x0) PySem.W.BT.nil PySem.W.BT.nil) (.node (ho259 x0) PySem.W.BT.nil PySem.W.BT.nil))) (.node (ho83 x0) (.node (ho115 x0) (.node (ho179 x0) PySem.W.BT.nil PySem.W.BT.nil) (.node (ho243 x0) PySem.W.BT.nil PySem.W.BT.nil)) (.node (ho147 x0) (.node (ho211 x0) PySem.W.BT.nil PySem.W.BT.nil) (.node (ho275 x0) PySem.W.BT.nil PySem.W.BT.nil)))) (.node (ho59 x0) (.node (ho75 x0) (.node (ho107 x0) (.node (ho171 x0) PySem.W.BT.nil PySem.W.BT.nil) (.node (ho235 x0) PySem.W.BT.nil PySem.W.BT.nil)) (.node (ho139 x0) (.node (ho203 x0) PySem.W.BT.nil PySem.W.BT.nil) (.node (ho267 x0) PySem.W.BT.nil PySem.W.BT.nil))) (.node (ho91 x0) (.node (ho123 x0) (.node (ho187 x0) PySem.W.BT.nil PySem.W.BT.nil) (.node (ho251 x0) PySem.W.BT.nil PySem.W.BT.nil)) (.node (ho155 x0) (.node (ho219 x0) PySem.W.BT.nil PySem.W.BT.nil) (.node (ho283 x0) PySem.W.BT.nil PySem.W.BT.nil))))) (.node (ho49 x0) (.node (ho55 x0) (.node (ho71 x0) (.node (ho103 x0) (.node (ho167 x0) (.node (ho295 x0) PySem.W.BT.nil PySem.W.BT.nil) PySem.W.BT.nil) (.node (ho231 x0) PySem.W.BT.nil PySem.W.BT.nil)) (.node (ho135 x0) (.node (ho199 x0) PySem.W.BT.nil PySem.W.BT.nil) (.node (ho263 x0) PySem.W.BT.nil PySem.W.BT.nil))) (.node (ho87 x0) (.node (ho119 x0) (.node (ho183 x0) PySem.W.BT.nil PySem.W.BT.nil) (.node (ho247 x0) PySem.W.BT.nil PySem.W.BT.nil)) (.node (ho151 x0) (.node (ho215 x0) PySem.W.BT.nil PySem.W.BT.nil) (.node (ho279 x0) PySem.W.BT.nil PySem.W.BT.nil)))) (.node (ho63 x0) (.node (ho79 x0) (.node (ho111 x0) (.node (ho175 x0) PySem.W.BT.nil PySem.W.BT.nil) (.node (ho239 x0) PySem.W.BT.nil PySem.W.BT.nil)) (.node (ho143 x0) (.node (ho207 x0) PySem.W.BT.nil PySem.W.BT.nil) (.node (ho271 x0) PySem.W.BT.nil PySem.W.BT.nil))) (.node (ho95 x0) (.node (ho127 x0) (.node (ho191 x0) PySem.W.BT.nil PySem.W.BT.nil) (.node (ho255 x0) PySem.W.BT.nil PySem.W.BT.nil)) (.node (ho159 x0) (.node (ho223 x0) PySem.W.BT.nil PySem.W.BT.nil) (.node (ho287 x0) PySem.W.BT.nil PySem.W.BT.nil)))))) (.node (@PySem.W.boot_o_6 x0) (.node (@PySem.W.boot_o_10 x0) (.node (ho53 x0) (.node (ho69 x0) (.node (ho101 x0) (.node (ho165 x0) (.node (ho293 x0) PySem.W.BT.nil PySem.W.BT.nil) PySem.W.BT.nil) (.node (ho229 x0) PySem.W.BT.nil PySem.W.BT.nil)) (.node (ho133 x0) (.node (ho197 x0) PySem.W.BT.nil PySem.W.BT.nil) (.node (ho261 x0) PySem.W.BT.nil PySem.W.BT.nil))) (.node (ho85 x0) (.node (ho117 x0) (.node (ho181 x0) PySem.W.BT.nil PySem.W.BT.nil) (.node (ho245 x0) PySem.W.BT.nil PySem.W.BT.nil)) (.node (ho149 x0) (.node (ho213 x0) PySem.W.BT.nil PySem.W.BT.nil) (.node (ho277 x0) PySem.W.BT.nil PySem.W.BT.nil)))) (.node (ho61 x0) (.node (ho77 x0) (.node (ho109 x0) (.node (ho173 x0) PySem.W.BT.nil PySem.W.BT.nil) (.node (ho237 x0) PySem.W.BT.nil PySem.W.BT.nil)) (.node (ho141 x0) (.node (ho205 x0) PySem.W.BT.nil PySem.W.BT.nil) (.node (ho269 x0) PySem.W.BT.nil PySem.W.BT.nil))) (.node (ho93 x0) (.node (ho125 x0) (.node (ho189 x0) PySem.W.BT.nil PySem.W.BT.nil) (.node (ho253 x0) PySem.W.BT.nil PySem.W.BT.nil)) (.node (ho157 x0) (.node (ho221 x0) PySem.W.BT.nil PySem.W.BT.nil) (.node (ho285 x0) PySem.W.BT.nil PySem.W.BT.nil))))) (.node (ho46 x0) (.node (ho57 x0) (.node (ho73 x0) (.node (ho105 x0) (.node (ho169 x0) PySem.W.BT.nil PySem.W.BT.nil) (.node (ho233 x0) PySem.W.BT.nil PySem.W.BT.nil)) (.node (ho137 x0) (.node (ho201 x0) PySem.W.BT.nil PySem.W.BT.nil) (.node (ho265 x0) PySem.W.BT.nil PySem.W.BT.nil))) (.node (ho89 x0) (.node (ho121 x0) (.node (ho185 x0) PySem.W.BT.nil PySem.W.BT.nil) (.node (ho249 x0) PySem.W.BT.nil PySem.W.BT.nil)) (.node (ho153 x0) (.node (ho217 x0) PySem.W.BT.nil PySem.W.BT.nil) (.node (ho281 x0) PySem.W.BT.nil PySem.W.BT.nil)))) (.node (ho65 x0) (.node (ho81 x0) (.node (ho113 x0) (.node (ho177 x0) PySem.W.BT.nil PySem.W.BT.nil) (.node (ho241 x0) PySem.W.BT.nil PySem.W.BT.nil)) (.node (ho145 x0) (.node (ho209 x0) PySem.W.BT.nil PySem.W.BT.nil) (.node (ho273 x0) PySem.W.BT.nil PySem.W.BT.nil))) (.node (ho97 x0) (.node (ho129 x0) (.node (ho193 x0) PySem.W.BT.nil PySem.W.BT.nil) (.node (ho257 x0) PySem.W.BT.nil PySem.W.BT.nil)) (.node (ho161 x0) (.node (ho225 x0) PySem.W.BT.nil PySem.W.BT.nil) (.node (ho289 x0) PySem.W.BT.nil PySem.W.BT.nil)))))))))
noncomputable def hsts47 : List Stmt := (hAll.drop 0).take 41
noncomputable def hsts296 : List Stmt := (hAll.drop 41).take 10
noncomputable def hsts456 : List Stmt := (hAll.drop 51).take 39
theorem hproof296 : (∀ (x0 : PySem.World), (@Eq (∀ (x1 : PySem.OsState), (@Option (@Prod PySem.Flow (@Prod PySem.W.SharedT (@Prod PySem.Code PySem.Pos))))) (fun (x1 : PySem.OsState) => (@PySem.W.segRunT PySem.treeTable hPG x0 (nat_lit 11) (some (.ref 6)) (nat_lit 1) (nat_lit 1485) (.mk (@htree46 (@PySem.World.params x0)) (nat_lit 15) (.mk [] [] [] 0 [] [] Bool.false #[] [] 0 Bool.false Bool.false Bool.false 0 [2000, 10, 10] Bool.false 0 Bool.true [] [] 0 Bool.false) (@Array.mk PySem.GenState []) (.mk 0 0 0 0) (nat_lit 187) x1) (@PySem.W.piecesOf hsts47 henv41 (.body (@PySem.W.behindTheImports hPG) henv41) (.mk 0 0 0 0) [(@PySem.W.topFrame (.mk 0 0 0 0))]))) (fun (x1 : PySem.OsState) => (some (PySem.Flow.next, ((.mk (@htree296 (@PySem.World.params x0)) (nat_lit 262) (.mk [] [] [] 0 [] [] Bool.false #[] [] 0 Bool.false Bool.false Bool.false 0 [2000, 10, 10] Bool.false 0 Bool.true [] [] 0 Bool.false) (@Array.mk PySem.GenState []) (.mk 0 0 0 0) (nat_lit 536) x1), ((.body (@PySem.W.behindTheImports hPG) henv41), (.mk 218 0 249 65)))))))) := by intros; kernel_rfl
noncomputable def ho297 : Params → Obj := (fun x0 => (.mk (.type "dict") none (.dict #[(.mk (@PySem.PyData.keyHash x0 (hq "__name__")) (.str (hq "__name__") 165) (.str (hq "vectorcove.values") 548)), (.mk (@PySem.PyData.keyHash x0 (hq "__doc__")) (.str (hq "__doc__") 166) .none), (.mk (@PySem.PyData.keyHash x0 (hq "__package__")) (.str (hq "__package__") 167) .none), (.mk (@PySem.PyData.keyHash x0 (hq "__loader__")) (.str (hq "__loader__") 168) (.builtin "__main__.__loader__#opaque")), (.mk (@PySem.PyData.keyHash x0 (hq "__spec__")) (.str (hq "__spec__") 169) .none), (.mk (@PySem.PyData.keyHash x0 (hq "__annotations__")) (.str (hq "__annotations__") 170) (.ref 6)), (.mk (@PySem.PyData.keyHash x0 (hq "__builtins__")) (.str (hq "__builtins__") 171) (.ref 4)), (.mk (@PySem.PyData.keyHash x0 (hq "__file__")) (.str (hq "__file__") 173) (.str (hq "/claim/cut.py") 172)), (.mk (@PySem.PyData.keyHash x0 (hq "__cached__")) (.str (hq "__cached__") 174) .none), (.mk (@PySem.PyData.keyHash x0 (hq "_wall")) (.str (hq "_wall") 193) (.ref 21)), (.mk (@PySem.PyData.keyHash x0 (hq "get_attr")) (.str (hq "get_attr") 203) (.ref 28)), (.mk (@PySem.PyData.keyHash x0 (hq "names_of")) (.str (hq "names_of") 209) (.ref 33)), (.mk (@PySem.PyData.keyHash x0 (hq "dim_of")) (.str (hq "dim_of") 217) (.ref 40)), (.mk (@PySem.PyData.keyHash x0 (hq "dimnames_of")) (.str (hq "dimnames_of") 223) (.ref 45)), (.mk (@PySem.PyData.keyHash x0 (hq "CoveError")) (.str (hq "CoveError") 245) (.ref 55)), (.mk (@PySem.PyData.keyHash x0 (hq "Refusal")) (.str (hq "Refusal") 270) (.ref 75)), (.mk (@PySem.PyData.keyHash x0 (hq "NAN")) (.str (hq "NAN") 275) (.ref 78)), (.mk (@PySem.PyData.keyHash x0 (hq "INF")) (.str (hq "INF") 278) (.ref 79)), (.mk (@PySem.PyData.keyHash x0 (hq "ZERO")) (.str (hq "ZERO") 281) (.ref 80)), (.mk (@PySem.PyData.keyHash x0 (hq "gcd")) (.str (hq "gcd") 289) (.ref 87)), (.mk (@PySem.PyData.keyHash x0 (hq "make")) (.str (hq "make") 298) (.ref 94)), (.mk (@PySem.PyData.keyHash x0 (hq "from_int")) (.str (hq "from_int") 305) (.ref 101)), (.mk (@PySem.PyData.keyHash x0 (hq "is_na")) (.str (hq "is_na") 312) (.ref 108)), (.mk (@PySem.PyData.keyHash x0 (hq "is_finite")) (.str (hq "is_finite") 319) (.ref 115)), (.mk (@PySem.PyData.keyHash x0 (hq "neg")) (.str (hq "neg") 326) (.ref 122)), (.mk (@PySem.PyData.keyHash x0 (hq "to_whole")) (.str (hq "to_whole") 334) (.ref 129)), (.mk (@PySem.PyData.keyHash x0 (hq "nearest_whole")) (.str (hq "nearest_whole") 344) (.ref 136)), (.mk (@PySem.PyData.keyHash x0 (hq "exponent")) (.str (hq "exponent") 354) (.ref 143)), (.mk (@PySem.PyData.keyHash x0 (hq "MOST_EXPONENT")) (.str (hq "MOST_EXPONENT") 358) (.int 4096 357)), (.mk (@PySem.PyData.keyHash x0 (hq "whole_text")) (.str (hq "whole_text") 368) (.ref 150)), (.mk (@PySem.PyData.keyHash x0 (hq "special_text")) (.str (hq "special_text") 375) (.ref 157)), (.mk (@PySem.PyData.keyHash x0 (hq "scaled")) (.str (hq "scaled") 385) (.ref 164)), (.mk (@PySem.PyData.keyHash x0 (hq "significant")) (.str (hq "significant") 395) (.ref 171)), (.mk (@PySem.PyData.keyHash x0 (hq "without_tail")) (.str (hq "without_tail") 403) (.ref 178)), (.mk (@PySem.PyData.keyHash x0 (hq "scientific_text")) (.str (hq "scientific_text") 415) (.ref 185)), (.mk (@PySem.PyData.keyHash x0 (hq "fixed_text")) (.str (hq "fixed_text") 425) (.ref 192)), (.mk (@PySem.PyData.keyHash x0 (hq "measures")) (.str (hq "measures") 438) (.ref 199)), (.mk (@PySem.PyData.keyHash x0 (hq "chosen_form")) (.str (hq "chosen_form") 455) (.ref 206)), (.mk (@PySem.PyData.keyHash x0 (hq "formed")) (.str (hq "formed") 464) (.ref 213)), (.mk (@PySem.PyData.keyHash x0 (hq "common_texts")) (.str (hq "common_texts") 470) (.ref 218)), (.mk (@PySem.PyData.keyHash x0 (hq "number_text")) (.str (hq "number_text") 479) (.ref 226)), (.mk (@PySem.PyData.keyHash x0 (hq "digits_value")) (.str (hq "digits_value") 489) (.ref 233)), (.mk (@PySem.PyData.keyHash x0 (hq "digit_run")) (.str (hq "digit_run") 498) (.ref 240)), (.mk (@PySem.PyData.keyHash x0 (hq "exponent_value")) (.str (hq "exponent_value") 507) (.ref 247)), (.mk (@PySem.PyData.keyHash x0 (hq "powered")) (.str (hq "powered") 516) (.ref 254)), (.mk (@PySem.PyData.keyHash x0 (hq "unsigned_number")) (.str (hq "unsigned_number") 535) (.ref 261)), (.mk (@PySem.PyData.keyHash x0 (hq "parse_number")) (.str (hq "parse_number") 547) (.ref 268)), (.mk (@PySem.PyData.keyHash x0 (hq "Null")) (.str (hq "Null") 578) (.ref 285)), (.mk (@PySem.PyData.keyHash x0 (hq "Vector")) (.str (hq "Vector") 620) (.ref 314)), (.mk (@PySem.PyData.keyHash x0 (hq "Symbol")) (.str (hq "Symbol") 651) (.ref 335)), (.mk (@PySem.PyData.keyHash x0 (hq "Call")) (.str (hq "Call") 686) (.ref 357)), (.mk (@PySem.PyData.keyHash x0 (hq "Closure")) (.str (hq "Closure") 722) (.ref 379)), (.mk (@PySem.PyData.keyHash x0 (hq "Environment")) (.str (hq "Environment") 759) (.ref 401)), (.mk (@PySem.PyData.keyHash x0 (hq "character")) (.str (hq "character") 766) (.ref 412)), (.mk (@PySem.PyData.keyHash x0 (hq "length")) (.str (hq "length") 774) (.ref 419))] 55) #[]))
noncomputable def ho298 : Params → Obj := (fun x0 => (.mk .none none (.fields #[(.int 1 0), (.int 0 0), (.ref 20), (.int 5 0), (.int 0 0), (.ref 27), (.int 9 0), (.int 0 0), (.ref 32), (.int 25 0), (.int 0 0), (.ref 39), (.int 30 0), (.int 0 0), (.ref 44), (.int 36 0), (.int 0 0), (.ref 51), (.int 38 0), (.int 0 0), (.ref 64), (.int 46 0), (.int 0 0), (.ref 86), (.int 50 0), (.int 0 0), (.ref 93), (.int 60 0), (.int 0 0), (.ref 100), (.int 64 0), (.int 0 0), (.ref 107), (.int 66 0), (.int 0 0), (.ref 114), (.int 68 0), (.int 0 0), (.ref 121), (.int 72 0), (.int 0 0), (.ref 128), (.int 77 0), (.int 0 0), (.ref 135), (.int 83 0), (.int 0 0), (.ref 142), (.int 96 0), (.int 0 0), (.ref 149), (.int 107 0), (.int 0 0), (.ref 156), (.int 115 0), (.int 0 0), (.ref 163), (.int 120 0), (.int 0 0), (.ref 170), (.int 129 0), (.int 0 0), (.ref 177), (.int 134 0), (.int 0 0), (.ref 184), (.int 141 0), (.int 0 0), (.ref 191), (.int 149 0), (.int 0 0), (.ref 198), (.int 156 0), (.int 0 0), (.ref 205), (.int 176 0), (.int 0 0), (.ref 212), (.int 183 0), (.int 0 0), (.ref 217), (.int 187 0), (.int 0 0), (.ref 225), (.int 189 0), (.int 0 0), (.ref 232), (.int 194 0), (.int 0 0), (.ref 239), (.int 198 0), (.int 0 0), (.ref 246), (.int 208 0), (.int 0 0), (.ref 253), (.int 218 0), (.int 0 0), (.ref 260), (.int 250 0), (.int 0 0), (.ref 267), (.int 268 0), (.int 0 0), (.ref 274), (.int 273 0), (.int 0 0), (.ref 295), (.int 284 0), (.int 0 0), (.ref 324), (.int 290 0), (.int 0 0), (.ref 345), (.int 298 0), (.int 0 0), (.ref 367), (.int 306 0), (.int 0 0), (.ref 389), (.int 316 0), (.int 0 0), (.ref 411), (.int 318 0), (.int 0 0), (.ref 418)]) #[]))
noncomputable def htree456 : (Params → PySem.W.BT) := (fun x0 => (.node (@PySem.W.boot_o_0 x0) (.node (@PySem.W.boot_o_1 x0) (.node (ho297 x0) (.node (@PySem.W.boot_o_7 x0) (.node (ho50 x0) (.node (ho66 x0) (.node (ho98 x0) (.node (ho162 x0) (.node (ho290 x0) PySem.W.BT.nil PySem.W.BT.nil) (.node (ho420 x0) PySem.W.BT.nil PySem.W.BT.nil)) (.node (ho226 x0) (.node (ho356 x0) PySem.W.BT.nil PySem.W.BT.nil) PySem.W.BT.nil)) (.node (ho130 x0) (.node (ho194 x0) (.node (ho324 x0) PySem.W.BT.nil PySem.W.BT.nil) (.node (ho452 x0) PySem.W.BT.nil PySem.W.BT.nil)) (.node (ho258 x0) (.node (ho388 x0) PySem.W.BT.nil PySem.W.BT.nil) PySem.W.BT.nil))) (.node (ho82 x0) (.node (ho114 x0) (.node (ho178 x0) (.node (ho308 x0) PySem.W.BT.nil PySem.W.BT.nil) (.node (ho436 x0) PySem.W.BT.nil PySem.W.BT.nil)) (.node (ho242 x0) (.node (ho372 x0) PySem.W.BT.nil PySem.W.BT.nil) PySem.W.BT.nil)) (.node (ho146 x0) (.node (ho210 x0) (.node (ho340 x0) PySem.W.BT.nil PySem.W.BT.nil) PySem.W.BT.nil) (.node (ho274 x0) (.node (ho404 x0) PySem.W.BT.nil PySem.W.BT.nil) PySem.W.BT.nil)))) (.node (ho58 x0) (.node (ho74 x0) (.node (ho106 x0) (.node (ho170 x0) (.node (ho300 x0) PySem.W.BT.nil PySem.W.BT.nil) (.node (ho428 x0) PySem.W.BT.nil PySem.W.BT.nil)) (.node (ho234 x0) (.node (ho364 x0) PySem.W.BT.nil PySem.W.BT.nil) PySem.W.BT.nil)) (.node (ho138 x0) (.node (ho202 x0) (.node (ho332 x0) PySem.W.BT.nil PySem.W.BT.nil) PySem.W.BT.nil) (.node (ho266 x0) (.node (ho396 x0) PySem.W.BT.nil PySem.W.BT.nil) PySem.W.BT.nil))) (.node (ho90 x0) (.node (ho122 x0) (.node (ho186 x0) (.node (ho316 x0) PySem.W.BT.nil PySem.W.BT.nil) (.node (ho444 x0) PySem.W.BT.nil PySem.W.BT.nil)) (.node (ho250 x0) (.node (ho380 x0) PySem.W.BT.nil PySem.W.BT.nil) PySem.W.BT.nil)) (.node (ho154 x0) (.node (ho218 x0) (.node (ho348 x0) PySem.W.BT.nil PySem.W.BT.nil) PySem.W.BT.nil) (.node (ho282 x0) (.node (ho412 x0) PySem.W.BT.nil PySem.W.BT.nil) PySem.W.BT.nil))))) (.node (ho43 x0) (.node (ho54 x0) (.node (ho70 x0) (.node (ho102 x0) (.node (ho166 x0) (.node (ho294 x0) PySem.W.BT.nil PySem.W.BT.nil) (.node (ho424 x0) PySem.W.BT.nil PySem.W.BT.nil)) (.node (ho230 x0) (.node (ho360 x0) PySem.W.BT.nil PySem.W.BT.nil) PySem.W.BT.nil)) (.node (ho134 x0) (.node (ho198 x0) (.node (ho328 x0) PySem.W.BT.nil PySem.W.BT.nil) (.node (ho456 x0) PySem.W.BT.nil PySem.W.BT.nil)) (.node (ho262 x0) (.node (ho392 x0) PySem.W.BT.nil PySem.W.BT.nil) PySem.W.BT.nil))) (.node (ho86 x0) (.node (ho118 x0) (.node (ho182 x0) (.node (ho312 x0) PySem.W.BT.nil PySem.W.BT.nil) (.node (ho440 x0) PySem.W.BT.nil PySem.W.BT.nil)) (.node (ho246 x0) (.node (ho376 x0) PySem.W.BT.nil PySem.W.BT.nil) PySem.W.BT.nil)) (.node (ho150 x0) (.node (ho214 x0) (.node (ho344 x0) PySem.W.BT.nil PySem.W.BT.nil) PySem.W.BT.nil) (.node (ho278 x0) (.node (ho408 x0) PySem.W.BT.nil PySem.W.BT.nil) PySem.W.BT.nil)))) (.node (ho62 x0) (.node (ho78 x0) (.node (ho110 x0) (.node (ho174 x0) (.node (ho304 x0) PySem.W.BT.nil PySem.W.BT.nil) (.node (ho432 x0) PySem.W.BT.nil PySem.W.BT.nil)) (.node (ho238 x0) (.node (ho368 x0) PySem.W.BT.nil PySem.W.BT.nil) PySem.W.BT.nil)) (.node (ho142 x0) (.node (ho206 x0) (.node (ho336 x0) PySem.W.BT.nil PySem.W.BT.nil) PySem.W.BT.nil) (.node (ho270 x0) (.node (ho400 x0) PySem.W.BT.nil PySem.W.BT.nil) PySem.W.BT.nil))) (.node (ho94 x0) (.node (ho126 x0) (.node (ho190 x0) (.node (ho320 x0) PySem.W.BT.nil PySem.W.BT.nil) (.node (ho448 x0) PySem.W.BT.nil PySem.W.BT.nil)) (.node (ho254 x0) (.node (ho384 x0) PySem.W.BT.nil PySem.W.BT.nil) PySem.W.BT.nil)) (.node (ho158 x0) (.node (ho222 x0) (.node (ho352 x0) PySem.W.BT.nil PySem.W.BT.nil) PySem.W.BT.nil) (.node (ho286 x0) (.node (ho416 x0) PySem.W.BT.nil PySem.W.BT.nil) PySem.W.BT.nil)))))) (.node (@PySem.W.boot_o_5 x0) (.node (@PySem.W.boot_o_9 x0) (.node (ho52 x0) (.node (ho68 x0) (.node (ho100 x0) (.node (ho164 x0) (.node (ho292 x0) PySem.W.BT.nil PySem.W.BT.nil) (.node (ho422 x0) PySem.W.BT.nil PySem.W.BT.nil)) (.node (ho228 x0) (.node (ho358 x0) PySem.W.BT.nil PySem.W.BT.nil) PySem.W.BT.nil)) (.node (ho132 x0) (.node (ho196 x0) (.node (ho326 x0) PySem.W.BT.nil PySem.W.BT.nil) (.node (ho454 x0) PySem.W.BT.nil PySem.W.BT.nil)) (.node (ho260 x0) (.node (ho390 x0) PySem.W.BT.nil PySem.W.BT.nil) PySem.W.BT.nil))) (.node (ho84 x0) (.node (ho116 x0) (.node (ho180 x0) (.node (ho310 x0) PySem.W.BT.nil PySem.W.BT.nil) (.node (ho438 x0) PySem.W.BT.nil PySem.W.BT.nil)) (.node (ho244 x0) (.node (ho374 x0) PySem.W.BT.nil PySem.W.BT.nil) PySem.W.BT.nil)) (.node (ho148 x0) (.node (ho212 x0) (.node (ho342 x0) PySem.W.BT.nil PySem.W.BT.nil) PySem.W.BT.nil) (.node (ho276 x0) (.node (ho406 x0) PySem.W.BT.nil PySem.W.BT.nil) PySem.W.BT.nil)))) (.node (ho60 x0) (.node (ho76 x0) (.node (ho108 x0) (.node (ho172 x0) (.node (ho302 x0) PySem.W.BT.nil PySem.W.BT.nil) (.node (ho430 x0) PySem.W.BT.nil PySem.W.BT.nil)) (.node (ho236 x0) (.node (ho366 x0) PySem.W.BT.nil PySem.W.BT.nil) PySem.W.BT.nil)) (.node (ho140 x0) (.node (ho204 x0) (.node (ho334 x0) PySem.W.BT.nil PySem.W.BT.nil) PySem.W.BT.nil) (.node (ho268 x0) (.node (ho398 x0) PySem.W.BT.nil PySem.W.BT.nil) PySem.W.BT.nil))) (.node (ho92 x0) (.node (ho124 x0) (.node (ho188 x0) (.node (ho318 x0) PySem.W.BT.nil PySem.W.BT.nil) (.node (ho446 x0) PySem.W.BT.nil PySem.W.BT.nil)) (.node (ho252 x0) (.node (ho382 x0) PySem.W.BT.nil PySem.W.BT.nil) PySem.W.BT.nil)) (.node (ho156 x0) (.node (ho220 x0) (.node (ho350 x0) PySem.W.BT.nil PySem.W.BT.nil) PySem.W.BT.nil) (.node (ho284 x0) (.node (ho414 x0) PySem.W.BT.nil PySem.W.BT.nil) PySem.W.BT.nil))))) (.node (ho45 x0) (.node (ho56 x0) (.node (ho72 x0) (.node (ho104 x0) (.node (ho168 x0) (.node (ho296 x0) PySem.W.BT.nil PySem.W.BT.nil) (.node (ho426 x0) PySem.W.BT.nil PySem.W.BT.nil)) (.node (ho232 x0) (.node (ho362 x0) PySem.W.BT.nil PySem.W.BT.nil) PySem.W.BT.nil)) (.node (ho136 x0) (.node (ho200 x0) (.node (ho330 x0) PySem.W.BT.nil PySem.W.BT.nil) PySem.W.BT.nil) (.node (ho264 x0) (.node (ho394 x0) PySem.W.BT.nil PySem.W.BT.nil) PySem.W.BT.nil))) (.node (ho88 x0) (.node (ho120 x0) (.node (ho184 x0) (.node (ho314 x0) PySem.W.BT.nil PySem.W.BT.nil) (.node (ho442 x0) PySem.W.BT.nil PySem.W.BT.nil)) (.node (ho248 x0) (.node (ho378 x0) PySem.W.BT.nil PySem.W.BT.nil) PySem.W.BT.nil)) (.node (ho152 x0) (.node (ho216 x0) (.node (ho346 x0) PySem.W.BT.nil PySem.W.BT.nil) PySem.W.BT.nil) (.node (ho280 x0) (.node (ho410 x0) PySem.W.BT.nil PySem.W.BT.nil) PySem.W.BT.nil)))) (.node (ho64 x0) (.node (ho80 x0) (.node (ho112 x0) (.node (ho176 x0) (.node (ho306 x0) PySem.W.BT.nil PySem.W.BT.nil) (.node (ho434 x0) PySem.W.BT.nil PySem.W.BT.nil)) (.node (ho240 x0) (.node (ho370 x0) PySem.W.BT.nil PySem.W.BT.nil) PySem.W.BT.nil)) (.node (ho144 x0) (.node (ho208 x0) (.node (ho338 x0) PySem.W.BT.nil PySem.W.BT.nil) PySem.W.BT.nil) (.node (ho272 x0) (.node (ho402 x0) PySem.W.BT.nil PySem.W.BT.nil) PySem.W.BT.nil))) (.node (ho96 x0) (.node (ho128 x0) (.node (ho192 x0) (.node (ho322 x0) PySem.W.BT.nil PySem.W.BT.nil) (.node (ho450 x0) PySem.W.BT.nil PySem.W.BT.nil)) (.node (ho256 x0) (.node (ho386 x0) PySem.W.BT.nil PySem.W.BT.nil) PySem.W.BT.nil)) (.node (ho160 x0) (.node (ho224 x0) (.node (ho354 x0) PySem.W.BT.nil PySem.W.BT.nil) PySem.W.BT.nil) (.node (ho288 x0) (.node (ho418 x0) PySem.W.BT.nil PySem.W.BT.nil) PySem.W.BT.nil))))))) (.node (ho47 x0) (.node (@PySem.W.boot_o_4 x0) (.node (@PySem.W.boot_o_8 x0) (.node (ho51 x0) (.node (ho67 x0) (.node (ho99 x0) (.node (ho163 x0) (.node (ho291 x0) PySem.W.BT.nil PySem.W.BT.nil) (.node (ho421 x0) PySem.W.BT.nil PySem.W.BT.nil)) (.node (ho227 x0) (.node (ho357 x0) PySem.W.BT.nil PySem.W.BT.nil) PySem.W.BT.nil)) (.node (ho131 x0) (.node (ho195 x0) (.node (ho325 x0) PySem.W.BT.nil PySem.W.BT.nil) (.node (ho453 x0) PySem.W.BT.nil PySem.W.BT.nil)) (.node (ho259 x0) (.node (ho389 x0) PySem.W.BT.nil PySem.W.BT.nil) PySem.W.BT.nil))) (.node (ho83 x0) (.node (ho115 x0) (.node (ho179 x0) (.node (ho309 x0) PySem.W.BT.nil PySem.W.BT.nil) (.node (ho437 x0) PySem.W.BT.nil PySem.W.BT.nil)) (.node (ho243 x0) (.node (ho373 x0) PySem.W.BT.nil PySem.W.BT.nil) PySem.W.BT.nil)) (.node (ho147 x0) (.node (ho211 x0) (.node (ho341 x0) PySem.W.BT.nil PySem.W.BT.nil) PySem.W.BT.nil) (.node (ho275 x0) (.node (ho405 x0) PySem.W.BT.nil PySem.W.BT.nil) PySem.W.BT.nil)))) (.node (ho59 x0) (.node (ho75 x0) (.node (ho107 x0) (.node (ho171 x0) (.node (ho301 x0) PySem.W.BT.nil PySem.W.BT.nil) (.node (ho429 x0) PySem.W.BT.nil PySem.W.BT.nil)) (.node (ho235 x0) (.node (ho365 x0) PySem.W.BT.nil PySem.W.BT.nil) PySem.W.BT.nil)) (.node (ho139 x0) (.node (ho203 x0) (.node (ho333 x0) PySem.W.BT.nil PySem.W.BT.nil) PySem.W.BT.nil) (.node (ho267 x0) (.node (ho397 x0) PySem.W.BT.nil PySem.W.BT.nil) PySem.W.BT.nil))) (.node (ho91 x0) (.node (ho123 x0) (.node (ho187 x0) (.node (ho317 x0) PySem.W.BT.nil PySem.W.BT.nil) (.node (ho445 x0) PySem.W.BT.nil PySem.W.BT.nil)) (.node (ho251 x0) (.node (ho381 x0) PySem.W.BT.nil PySem.W.BT.nil) PySem.W.BT.nil)) (.node (ho155 x0) (.node (ho219 x0) (.node (ho349 x0) PySem.W.BT.nil PySem.W.BT.nil) PySem.W.BT.nil) (.node (ho283 x0) (.node (ho413 x0) PySem.W.BT.nil PySem.W.BT.nil) PySem.W.BT.nil))))) (.node (ho298 x0) (.node (ho55 x0) (.node (ho71 x0) (.node (ho103 x0) (.node (ho167 x0) (.node (ho295 x0) PySem.W.BT.nil PySem.W.BT.nil) (.node (ho425 x0) PySem.W.BT.nil PySem.W.BT.nil)) (.node (ho231 x0) (.node (ho361 x0) PySem.W.BT.nil PySem.W.BT.nil) PySem.W.BT.nil)) (.node (ho135 x0) (.node (ho199 x0) (.node (ho329 x0) PySem.W.BT.nil PySem.W.BT.nil) PySem.W.BT.nil) (.node (ho263 x0) (.node (ho393 x0) PySem.W.BT.nil PySem.W.BT.nil) PySem.W.BT.nil))) (.node (ho87 x0) (.node (ho119 x0) (.node (ho183 x0) (.node (ho313 x0) PySem.W.BT.nil PySem.W.BT.nil) (.node (ho441 x0) PySem.W.BT.nil PySem.W.BT.nil)) (.node (ho247 x0) (.node (ho377 x0) PySem.W.BT.nil PySem.W.BT.nil) PySem.W.BT.nil)) (.node (ho151 x0) (.node (ho215 x0) (.node (ho345 x0) PySem.W.BT.nil PySem.W.BT.nil) PySem.W.BT.nil) (.node (ho279 x0) (.node (ho409 x0) PySem.W.BT.nil PySem.W.BT.nil) PySem.W.BT.nil)))) (.node (ho63 x0) (.node (ho79 x0) (.node (ho111 x0) (.node (ho175 x0) (.node (ho305 x0) PySem.W.BT.nil PySem.W.BT.nil) (.node (ho433 x0) PySem.W.BT.nil PySem.W.BT.nil)) (.node (ho239 x0) (.node (ho369 x0) PySem.W.BT.nil PySem.W.BT.nil) PySem.W.BT.nil)) (.node (ho143 x0) (.node (ho207 x0) (.node (ho337 x0) PySem.W.BT.nil PySem.W.BT.nil) PySem.W.BT.nil) (.node (ho271 x0) (.node (ho401 x0) PySem.W.BT.nil PySem.W.BT.nil) PySem.W.BT.nil))) (.node (ho95 x0) (.node (ho127 x0) (.node (ho191 x0) (.node (ho321 x0) PySem.W.BT.nil PySem.W.BT.nil) (.node (ho449 x0) PySem.W.BT.nil PySem.W.BT.nil)) (.node (ho255 x0) (.node (ho385 x0) PySem.W.BT.nil PySem.W.BT.nil) PySem.W.BT.nil)) (.node (ho159 x0) (.node (ho223 x0) (.node (ho353 x0) PySem.W.BT.nil PySem.W.BT.nil) PySem.W.BT.nil) (.node (ho287 x0) (.node (ho417 x0) PySem.W.BT.nil PySem.W.BT.nil) PySem.W.BT.nil)))))) (.node (@PySem.W.boot_o_6 x0) (.node (@PySem.W.boot_o_10 x0) (.node (ho53 x0) (.node (ho69 x0) (.node (ho101 x0) (.node (ho165 x0) (.node (ho293 x0) PySem.W.BT.nil PySem.W.BT.nil) (.node (ho423 x0) PySem.W.BT.nil PySem.W.BT.nil)) (.node (ho229 x0) (.node (ho359 x0) PySem.W.BT.nil PySem.W.BT.nil) PySem.W.BT.nil)) (.node (ho133 x0) (.node (ho197 x0) (.node (ho327 x0) PySem.W.BT.nil PySem.W.BT.nil) (.node (ho455 x0) PySem.W.BT.nil PySem.W.BT.nil)) (.node (ho261 x0) (.node (ho391 x0) PySem.W.BT.nil PySem.W.BT.nil) PySem.W.BT.nil))) (.node (ho85 x0) (.node (ho117 x0) (.node (ho181 x0) (.node (ho311 x0) PySem.W.BT.nil PySem.W.BT.nil) (.node (ho439 x0) PySem.W.BT.nil PySem.W.BT.nil)) (.node (ho245 x0) (.node (ho375 x0) PySem.W.BT.nil PySem.W.BT.nil) PySem.W.BT.nil)) (.node (ho149 x0) (.node (ho213 x0) (.node (ho343 x0) PySem.W.BT.nil PySem.W.BT.nil) PySem.W.BT.nil) (.node (ho277 x0) (.node (ho407 x0) PySem.W.BT.nil PySem.W.BT.nil) PySem.W.BT.nil)))) (.node (ho61 x0) (.node (ho77 x0) (.node (ho109 x0) (.node (ho173 x0) (.node (ho303 x0) PySem.W.BT.nil PySem.W.BT.nil) (.node (ho431 x0) PySem.W.BT.nil PySem.W.BT.nil)) (.node (ho237 x0) (.node (ho367 x0) PySem.W.BT.nil PySem.W.BT.nil) PySem.W.BT.nil)) (.node (ho141 x0) (.node (ho205 x0) (.node (ho335 x0) PySem.W.BT.nil PySem.W.BT.nil) PySem.W.BT.nil) (.node (ho269 x0) (.node (ho399 x0) PySem.W.BT.nil PySem.W.BT.nil) PySem.W.BT.nil))) (.node (ho93 x0) (.node (ho125 x0) (.node (ho189 x0) (.node (ho319 x0) PySem.W.BT.nil PySem.W.BT.nil) (.node (ho447 x0) PySem.W.BT.nil PySem.W.BT.nil)) (.node (ho253 x0) (.node (ho383 x0) PySem.W.BT.nil PySem.W.BT.nil) PySem.W.BT.nil)) (.node (ho157 x0) (.node (ho221 x0) (.node (ho351 x0) PySem.W.BT.nil PySem.W.BT.nil) PySem.W.BT.nil) (.node (ho285 x0) (.node (ho415 x0) PySem.W.BT.nil PySem.W.BT.nil) PySem.W.BT.nil))))) (.node (ho46 x0) (.node (ho57 x0) (.node (ho73 x0) (.node (ho105 x0) (.node (ho169 x0) (.node (ho299 x0) PySem.W.BT.nil PySem.W.BT.nil) (.node (ho427 x0) PySem.W.BT.nil PySem.W.BT.nil)) (.node (ho233 x0) (.node (ho363 x0) PySem.W.BT.nil PySem.W.BT.nil) PySem.W.BT.nil)) (.node (ho137 x0) (.node (ho201 x0) (.node (ho331 x0) PySem.W.BT.nil PySem.W.BT.nil) PySem.W.BT.nil) (.node (ho265 x0) (.node (ho395 x0) PySem.W.BT.nil PySem.W.BT.nil) PySem.W.BT.nil))) (.node (ho89 x0) (.node (ho121 x0) (.node (ho185 x0) (.node (ho315 x0) PySem.W.BT.nil PySem.W.BT.nil) (.node (ho443 x0) PySem.W.BT.nil PySem.W.BT.nil)) (.node (ho249 x0) (.node (ho379 x0) PySem.W.BT.nil PySem.W.BT.nil) PySem.W.BT.nil)) (.node (ho153 x0) (.node (ho217 x0) (.node (ho347 x0) PySem.W.BT.nil PySem.W.BT.nil) PySem.W.BT.nil) (.node (ho281 x0) (.node (ho411 x0) PySem.W.BT.nil PySem.W.BT.nil) PySem.W.BT.nil)))) (.node (ho65 x0) (.node (ho81 x0) (.node (ho113 x0) (.node (ho177 x0) (.node (ho307 x0) PySem.W.BT.nil PySem.W.BT.nil) (.node (ho435 x0) PySem.W.BT.nil PySem.W.BT.nil)) (.node (ho241 x0) (.node (ho371 x0) PySem.W.BT.nil PySem.W.BT.nil) PySem.W.BT.nil)) (.node (ho145 x0) (.node (ho209 x0) (.node (ho339 x0) PySem.W.BT.nil PySem.W.BT.nil) PySem.W.BT.nil) (.node (ho273 x0) (.node (ho403 x0) PySem.W.BT.nil PySem.W.BT.nil) PySem.W.BT.nil))) (.node (ho97 x0) (.node (ho129 x0) (.node (ho193 x0) (.node (ho323 x0) PySem.W.BT.nil PySem.W.BT.nil) (.node (ho451 x0) PySem.W.BT.nil PySem.W.BT.nil)) (.node (ho257 x0) (.node (ho387 x0) PySem.W.BT.nil PySem.W.BT.nil) PySem.W.BT.nil)) (.node (ho161 x0) (.node (ho225 x0) (.node (ho355 x0) PySem.W.BT.nil PySem.W.BT.nil) PySem.W.BT.nil) (.node (ho289 x0) (.node (ho419 x0) PySem.W.BT.nil PySem.W.BT.nil) PySem.W.BT.nil)))))))))
theorem hproof456 : (∀ (x0 : PySem.World), (@Eq (∀ (x1 : PySem.OsState), (@Option (@Prod PySem.Flow (@Prod PySem.W.SharedT (@Prod PySem.Code PySem.Pos))))) (fun (x1 : PySem.OsState) => (@PySem.W.segRunT PySem.treeTable hPG x0 (nat_lit 11) (some (.ref 6)) (nat_lit 1) (nat_lit 1499) (.mk (@htree296 (@PySem.World.params x0)) (nat_lit 262) (.mk [] [] [] 0 [] [] Bool.false #[] [] 0 Bool.false Bool.false Bool.false 0 [2000, 10, 10] Bool.false 0 Bool.true [] [] 0 Bool.false) (@Array.mk PySem.GenState []) (.mk 0 0 0 0) (nat_lit 536) x1) (@PySem.W.piecesOf hsts296 henv41 (.body (@PySem.W.behindTheImports hPG) henv41) (.mk 218 0 249 65) [(@PySem.W.topFrame (.mk 0 0 0 0))]))) (fun (x1 : PySem.OsState) => (some (PySem.Flow.next, ((.mk (@htree456 (@PySem.World.params x0)) (nat_lit 420) (.mk [] [] [] 0 [] [] Bool.false #[] [] 0 Bool.false Bool.false Bool.false 0 [2000, 10, 10] Bool.false 0 Bool.true [] [] 0 Bool.false) (@Array.mk PySem.GenState []) (.mk 0 0 0 0) (nat_lit 775) x1), ((.body (@PySem.W.behindTheImports hPG) henv41), (.mk 318 0 328 12)))))))) := by intros; kernel_rfl
noncomputable def htree694 : (Params → PySem.W.BT) := (fun x0 => (.node (@PySem.W.boot_o_0 x0) (.node (@PySem.W.boot_o_1 x0) (.node (ho457 x0) (.node (@PySem.W.boot_o_7 x0) (.node (ho50 x0) (.node (ho66 x0) (.node (ho98 x0) (.node (ho162 x0) (.node (ho290 x0) (.node (ho550 x0) PySem.W.BT.nil PySem.W.BT.nil) PySem.W.BT.nil) (.node (ho420 x0) (.node (ho678 x0) PySem.W.BT.nil PySem.W.BT.nil) PySem.W.BT.nil)) (.node (ho226 x0) (.node (ho356 x0) (.node (ho614 x0) PySem.W.BT.nil PySem.W.BT.nil) PySem.W.BT.nil) (.node (ho486 x0) PySem.W.BT.nil PySem.W.BT.nil))) (.node (ho130 x0) (.node (ho194 x0) (.node (ho324 x0) (.node (ho582 x0) PySem.W.BT.nil PySem.W.BT.nil) PySem.W.BT.nil) (.node (ho452 x0) PySem.W.BT.nil PySem.W.BT.nil)) (.node (ho258 x0) (.node (ho388 x0) (.node (ho646 x0) PySem.W.BT.nil PySem.W.BT.nil) PySem.W.BT.nil) (.node (ho518 x0) PySem.W.BT.nil PySem.W.BT.nil)))) (.node (ho82 x0) (.node (ho114 x0) (.node (ho178 x0) (.node (ho308 x0) (.node (ho566 x0) PySem.W.BT.nil PySem.W.BT.nil) PySem.W.BT.nil) (.node (ho436 x0) (.node (ho694 x0) PySem.W.BT.nil PySem.W.BT.nil) PySem.W.BT.nil)) (.node (ho242 x0) (.node (ho372 x0) (.node (ho630 x0) PySem.W.BT.nil PySem.W.BT.nil) PySem.W.BT.nil) (.node (ho502 x0) PySem.W.BT.nil PySem.W.BT.nil))) (.node (ho146 x0) (.node (ho210 x0) (.node (ho340 x0) (.node (ho598 x0) PySem.W.BT.nil PySem.W.BT.nil) PySem.W.BT.nil) (.node (ho470 x0) PySem.W.BT.nil PySem.W.BT.nil)) (.node (ho274 x0) (.node (ho404 x0) (.node (ho662 x0) PySem.W.BT.nil PySem.W.BT.nil) PySem.W.BT.nil) (.node (ho534 x0) PySem.W.BT.nil PySem.W.BT.nil))))) (.node (ho58 x0) (.node (ho74 x0) (.node (ho106 x0) (.node (ho170 x0) (.node (ho300 x0) (.node (ho558 x0) PySem.W.BT.nil PySem.W.BT.nil) PySem.W.BT.nil) (.node (ho428 x0) (.node (ho686 x0) PySem.W.BT.nil PySem.W.BT.nil) PySem.W.BT.nil)) (.node (ho234 x0) (.node (ho364 x0) (.node (ho622 x0) PySem.W.BT.nil PySem.W.BT.nil) PySem.W.BT.nil) (.node (ho494 x0) PySem.W.BT.nil PySem.W.BT.nil))) (.node (ho138 x0) (.node (ho202 x0) (.node (ho332 x0) (.node (ho590 x0) PySem.W.BT.nil PySem.W.BT.nil) PySem.W.BT.nil) (.node (ho462 x0) PySem.W.BT.nil PySem.W.BT.nil)) (.node (ho266 x0) (.node (ho396 x0) (.node (ho654 x0) PySem.W.BT.nil PySem.W.BT.nil) PySem.W.BT.nil) (.node (ho526 x0) PySem.W.BT.nil PySem.W.BT.nil)))) (.node (ho90 x0) (.node (ho122 x0) (.node (ho186 x0) (.node (ho316 x0) (.node (ho574 x0) PySem.W.BT.nil PySem.W.BT.nil) PySem.W.BT.nil) (.node (ho444 x0) PySem.W.BT.nil PySem.W.BT.nil)) (.node (ho250 x0) (.node (ho380 x0) (.node (ho638 x0) PySem.W.BT.nil PySem.W.BT.nil) PySem.W.BT.nil) (.node (ho510 x0) PySem.W.BT.nil PySem.W.BT.nil))) (.node (ho154 x0) (.node (ho218 x0) (.node (ho348 x0) (.node (ho606 x0) PySem.W.BT.nil PySem.W.BT.nil) PySem.W.BT.nil) (.node (ho478 x0) PySem.W.BT.nil PySem.W.BT.nil)) (.node (ho282 x0) (.node (ho412 x0) (.node (ho670 x0) PySem.W.BT.nil PySem.W.BT.nil) PySem.W.BT.nil) (.node (ho542 x0) PySem.W.BT.nil PySem.W.BT.nil)))))) (.node (ho43 x0) (.node (ho54 x0) (.node (ho70 x0) (.node (ho102 x0) (.node (ho166 x0) (.node (ho294 x0) (.node (ho554 x0) PySem.W.BT.nil PySem.W.BT.nil) PySem.W.BT.nil) (.node (ho424 x0) (.node (ho682 x0) PySem.W.BT.nil PySem.W.BT.nil) PySem.W.BT.nil)) (.node (ho230 x0) (.node (ho360 x0) (.node (ho618 x0) PySem.W.BT.nil PySem.W.BT.nil) PySem.W.BT.nil) (.node (ho490 x0) PySem.W.BT.nil PySem.W.BT.nil))) (.node (ho134 x0) (.node (ho198 x0) (.node (ho328 x0) (.node (ho586 x0) PySem.W.BT.nil PySem.W.BT.nil) PySem.W.BT.nil) (.node (ho456 x0) PySem.W.BT.nil PySem.W.BT.nil)) (.node (ho262 x0) (.node (ho392 x0) (.node (ho650 x0) PySem.W.BT.nil PySem.W.BT.nil) PySem.W.BT.nil) (.node (ho522 x0) PySem.W.BT.nil PySem.W.BT.nil)))) (.node (ho86 x0) (.node (ho118 x0) (.node (ho182 x0) (.node (ho312 x0) (.node (ho570 x0) PySem.W.BT.nil PySem.W.BT.nil) PySem.W.BT.nil) (.node (ho440 x0) PySem.W.BT.nil PySem.W.BT.nil)) (.node (ho246 x0) (.node (ho376 x0) (.node (ho634 x0) PySem.W.BT.nil PySem.W.BT.nil) PySem.W.BT.nil) (.node (ho506 x0) PySem.W.BT.nil PySem.W.BT.nil))) (.node (ho150 x0) (.node (ho214 x0) (.node (ho344 x0) (.node (ho602 x0) PySem.W.BT.nil PySem.W.BT.nil) PySem.W.BT.nil) (.node (ho474 x0) PySem.W.BT.nil PySem.W.BT.nil)) (.node (ho278 x0) (.node (ho408 x0) (.node (ho666 x0) PySem.W.BT.nil PySem.W.BT.nil) PySem.W.BT.nil) (.node (ho538 x0) PySem.W.BT.nil PySem.W.BT.nil))))) (.node (ho62 x0) (.node (ho78 x0) (.node (ho110 x0) (.node (ho174 x0) (.node (ho304 x0) (.node (ho562 x0) PySem.W.BT.nil PySem.W.BT.nil) PySem.W.BT.nil) (.node (ho432 x0) (.node (ho690 x0) PySem.W.BT.nil PySem.W.BT.nil) PySem.W.BT.nil)) (.node (ho238 x0) (.node (ho368 x0) (.node (ho626 x0) PySem.W.BT.nil PySem.W.BT.nil) PySem.W.BT.nil) (.node (ho498 x0) PySem.W.BT.nil PySem.W.BT.nil))) (.node (ho142 x0) (.node (ho206 x0) (.node (ho336 x0) (.node (ho594 x0) PySem.W.BT.nil PySem.W.BT.nil) PySem.W.BT.nil) (.node (ho466 x0) PySem.W.BT.nil PySem.W.BT.nil)) (.node (ho270 x0) (.node (ho400 x0) (.node (ho658 x0) PySem.W.BT.nil PySem.W.BT.nil) PySem.W.BT.nil) (.node (ho530 x0) PySem.W.BT.nil PySem.W.BT.nil)))) (.node (ho94 x0) (.node (ho126 x0) (.node (ho190 x0) (.node (ho320 x0) (.node (ho578 x0) PySem.W.BT.nil PySem.W.BT.nil) PySem.W.BT.nil) (.node (ho448 x0) PySem.W.BT.nil PySem.W.BT.nil)) (.node (ho254 x0) (.node (ho384 x0) (.node (ho642 x0) PySem.W.BT.nil PySem.W.BT.nil) PySem.W.BT.nil) (.node (ho514 x0) PySem.W.BT.nil PySem.W.BT.nil))) (.node (ho158 x0) (.node (ho222 x0) (.node (ho352 x0) (.node (ho610 x0) PySem.W.BT.nil PySem.W.BT.nil) PySem.W.BT.nil) (.node (ho482 x0) PySem.W.BT.nil PySem.W.BT.nil)) (.node (ho286 x0) (.node (ho416 x0) (.node (ho674 x0) PySem.W.BT.nil PySem.W.BT.nil) PySem.W.BT.nil) (.node (ho546 x0) PySem.W.BT.nil PySem.W.BT.nil))))))) (.node (@PySem.W.boot_o_5 x0) (.node (@PySem.W.boot_o_9 x0) (.node (ho52 x0) (.node (ho68 x0) (.node (ho100 x0) (.node (ho164 x0) (.node (ho292 x0) (.node (ho552 x0) PySem.W.BT.nil PySem.W.BT.nil) PySem.W.BT.nil) (.node (ho422 x0) (.node (ho680 x0) PySem.W.BT.nil PySem.W.BT.nil) PySem.W.BT.nil)) (.node (ho228 x0) (.node (ho358 x0) (.node (ho616 x0) PySem.W.BT.nil PySem.W.BT.nil) PySem.W.BT.nil) (.node (ho488 x0) PySem.W.BT.nil PySem.W.BT.nil))) (.node (ho132 x0) (.node (ho196 x0) (.node (ho326 x0) (.node (ho584 x0) PySem.W.BT.nil PySem.W.BT.nil) PySem.W.BT.nil) (.node (ho454 x0) PySem.W.BT.nil PySem.W.BT.nil)) (.node (ho260 x0) (.node (ho390 x0) (.node (ho648 x0) PySem.W.BT.nil PySem.W.BT.nil) PySem.W.BT.nil) (.node (ho520 x0) PySem.W.BT.nil PySem.W.BT.nil)))) (.node (ho84 x0) (.node (ho116 x0) (.node (ho180 x0) (.node (ho310 x0) (.node (ho568 x0) PySem.W.BT.nil PySem.W.BT.nil) PySem.W.BT.nil) (.node (ho438 x0) PySem.W.BT.nil PySem.W.BT.nil)) (.node (ho244 x0) (.node (ho374 x0) (.node (ho632 x0) PySem.W.BT.nil PySem.W.BT.nil) PySem.W.BT.nil) (.node (ho504 x0) PySem.W.BT.nil PySem.W.BT.nil))) (.node (ho148 x0) (.node (ho212 x0) (.node (ho342 x0) (.node (ho600 x0) PySem.W.BT.nil PySem.W.BT.nil) PySem.W.BT.nil) (.node (ho472 x0) PySem.W.BT.nil PySem.W.BT.nil)) (.node (ho276 x0) (.node (ho406 x0) (.node (ho664 x0) PySem.W.BT.nil PySem.W.BT.nil) PySem.W.BT.nil) (.node (ho536 x0) PySem.W.BT.nil PySem.W.BT.nil))))) (.node (ho60 x0) (.node (ho76 x0) (.node (ho108 x0) (.node (ho172 x0) (.node (ho302 x0) (.node (ho560 x0) PySem.W.BT.nil PySem.W.BT.nil) PySem.W.BT.nil) (.node (ho430 x0) (.node (ho688 x0) PySem.W.BT.nil PySem.W.BT.nil) PySem.W.BT.nil)) (.node (ho236 x0) (.node (ho366 x0) (.node (ho624 x0) PySem.W.BT.nil PySem.W.BT.nil) PySem.W.BT.nil) (.node (ho496 x0) PySem.W.BT.nil PySem.W.BT.nil))) (.node (ho140 x0) (.node (ho204 x0) (.node (ho334 x0) (.node (ho592 x0) PySem.W.BT.nil PySem.W.BT.nil) PySem.W.BT.nil) (.node (ho464 x0) PySem.W.BT.nil PySem.W.BT.nil)) (.node (ho268 x0) (.node (ho398 x0) (.node (ho656 x0) PySem.W.BT.nil PySem.W.BT.nil) PySem.W.BT.nil) (.node (ho528 x0) PySem.W.BT.nil PySem.W.BT.nil)))) (.node (ho92 x0) (.node (ho124 x0) (.node (ho188 x0) (.node (ho318 x0) (.node (ho576 x0) PySem.W.BT.nil PySem.W.BT.nil) PySem.W.BT.nil) (.node (ho446 x0) PySem.W.BT.nil PySem.W.BT.nil)) (.node (ho252 x0) (.node (ho382 x0) (.node (ho640 x0) PySem.W.BT.nil PySem.W.BT.nil) PySem.W.BT.nil) (.node (ho512 x0) PySem.W.BT.nil PySem.W.BT.nil))) (.node (ho156 x0) (.node (ho220 x0) (.node (ho350 x0) (.node (ho608 x0) PySem.W.BT.nil PySem.W.BT.nil) PySem.W.BT.nil) (.node (ho480 x0) PySem.W.BT.nil PySem.W.BT.nil)) (.node (ho284 x0) (.node (ho414 x0) (.node (ho672 x0) PySem.W.BT.nil PySem.W.BT.nil) PySem.W.BT.nil) (.node (ho544 x0) PySem.W.BT.nil PySem.W.BT.nil)))))) (.node (ho45 x0) (.node (ho56 x0) (.node (ho72 x0) (.node (ho104 x0) (.node (ho168 x0) (.node (ho296 x0) (.node (ho556 x0) PySem.W.BT.nil PySem.W.BT.nil) PySem.W.BT.nil) (.node (ho426 x0) (.node (ho684 x0) PySem.W.BT.nil PySem.W.BT.nil) PySem.W.BT.nil)) (.node (ho232 x0) (.node (ho362 x0) (.node (ho620 x0) PySem.W.BT.nil PySem.W.BT.nil) PySem.W.BT.nil) (.node (ho492 x0) PySem.W.BT.nil PySem.W.BT.nil))) (.node (ho136 x0) (.node (ho200 x0) (.node (ho330 x0) (.node (ho588 x0) PySem.W.BT.nil PySem.W.BT.nil) PySem.W.BT.nil) (.node (ho460 x0) PySem.W.BT.nil PySem.W.BT.nil)) (.node (ho264 x0) (.node (ho394 x0) (.node (ho652 x0) PySem.W.BT.nil PySem.W.BT.nil) PySem.W.BT.nil) (.node (ho524 x0) PySem.W.BT.nil PySem.W.BT.nil)))) (.node (ho88 x0) (.node (ho120 x0) (.node (ho184 x0) (.node (ho314 x0) (.node (ho572 x0) PySem.W.BT.nil PySem.W.BT.nil) PySem.W.BT.nil) (.node (ho442 x0) PySem.W.BT.nil PySem.W.BT.nil)) (.node (ho248 x0) (.node (ho378 x0) (.node (ho636 x0) PySem.W.BT.nil PySem.W.BT.nil) PySem.W.BT.nil) (.node (ho508 x0) PySem.W.BT.nil PySem.W.BT.nil))) (.node (ho152 x0) (.node (ho216 x0) (.node (ho346 x0) (.node (ho604 x0) PySem.W.BT.nil PySem.W.BT.nil) PySem.W.BT.nil) (.node (ho476 x0) PySem.W.BT.nil PySem.W.BT.nil)) (.node (ho280 x0) (.node (ho410 x0) (.node (ho668 x0) PySem.W.BT.nil PySem.W.BT.nil) PySem.W.BT.nil) (.node (ho540 x0) PySem.W.BT.nil PySem.W.BT.nil))))) (.node (ho64 x0) (.node (ho80 x0) (.node (ho112 x0) (.node (ho176 x0) (.node (ho306 x0) (.node (ho564 x0) PySem.W.BT.nil PySem.W.BT.nil) PySem.W.BT.nil) (.node (ho434 x0) (.node (ho692 x0) PySem.W.BT.nil PySem.W.BT.nil) PySem.W.BT.nil)) (.node (ho240 x0) (.node (ho370 x0) (.node (ho628 x0) PySem.W.BT.nil PySem.W.BT.nil) PySem.W.BT.nil) (.node (ho500 x0) PySem.W.BT.nil PySem.W.BT.nil))) (.node (ho144 x0) (.node (ho208 x0) (.node (ho338 x0) (.node (ho596 x0) PySem.W.BT.nil PySem.W.BT.nil) PySem.W.BT.nil) (.node (ho468 x0) PySem.W.BT.nil PySem.W.BT.nil)) (.node (ho272 x0) (.node (ho402 x0) (.node (ho660 x0) PySem.W.BT.nil PySem.W.BT.nil) PySem.W.BT.nil) (.node (ho532 x0) PySem.W.BT.nil PySem.W.BT.nil)))) (.node (ho96 x0) (.node (ho128 x0) (.node (ho192 x0) (.node (ho322 x0) (.node (ho580 x0) PySem.W.BT.nil PySem.W.BT.nil) PySem.W.BT.nil) (.node (ho450 x0) PySem.W.BT.nil PySem.W.BT.nil)) (.node (ho256 x0) (.node (ho386 x0) (.node (ho644 x0) PySem.W.BT.nil PySem.W.BT.nil) PySem.W.BT.nil) (.node (ho516 x0) PySem.W.BT.nil PySem.W.BT.nil))) (.node (ho160 x0) (.node (ho224 x0) (.node (ho354 x0) (.node (ho612 x0) PySem.W.BT.nil PySem.W.BT.nil) PySem.W.BT.nil) (.node (ho484 x0) PySem.W.BT.nil PySem.W.BT.nil)) (.node (ho288 x0) (.node (ho418 x0) (.node (ho676 x0) PySem.W.BT.nil PySem.W.BT.nil) PySem.W.BT.nil) (.node (ho548 x0) PySem.W.BT.nil PySem.W.BT.nil)))))))) (.node (ho47 x0) (.node (@PySem.W.boot_o_4 x0) (.node (@PySem.W.boot_o_8 x0) (.node (ho51 x0) (.node (ho67 x0) (.node (ho99 x0) (.node (ho163 x0) (.node (ho291 x0) (.node (ho551 x0) PySem.W.BT.nil PySem.W.BT.nil) PySem.W.BT.nil) (.node (ho421 x0) (.node (ho679 x0) PySem.W.BT.nil PySem.W.BT.nil) PySem.W.BT.nil)) (.node (ho227 x0) (.node (ho357 x0) (.node (ho615 x0) PySem.W.BT.nil PySem.W.BT.nil) PySem.W.BT.nil) (.node (ho487 x0) PySem.W.BT.nil PySem.W.BT.nil))) (.node (ho131 x0) (.node (ho195 x0) (.node (ho325 x0) (.node (ho583 x0) PySem.W.BT.nil PySem.W.BT.nil) PySem.W.BT.nil) (.node (ho453 x0) PySem.W.BT.nil PySem.W.BT.nil)) (.node (ho259 x0) (.node (ho389 x0) (.node (ho647 x0) PySem.W.BT.nil PySem.W.BT.nil) PySem.W.BT.nil) (.node (ho519 x0) PySem.W.BT.nil PySem.W.BT.nil)))) (.node (ho83 x0) (.node (ho115 x0) (.node (ho179 x0) (.node (ho309 x0) (.node (ho567 x0) PySem.W.BT.nil PySem.W.BT.nil) PySem.W.BT.nil) (.node (ho437 x0) PySem.W.BT.nil PySem.W.BT.nil)) (.node (ho243 x0) (.node (ho373 x0) (.node (ho631 x0) PySem.W.BT.nil PySem.W.BT.nil) PySem.W.BT.nil) (.node (ho503 x0) PySem.W.BT.nil PySem.W.BT.nil))) (.node (ho147 x0) (.node (ho211 x0) (.node (ho341 x0) (.node (ho599 x0) PySem.W.BT.nil PySem.W.BT.nil) PySem.W.BT.nil) (.node (ho471 x0) PySem.W.BT.nil PySem.W.BT.nil)) (.node (ho275 x0) (.node (ho405 x0) (.node (ho663 x0) PySem.W.BT.nil PySem.W.BT.nil) PySem.W.BT.nil) (.node (ho535 x0) PySem.W.BT.nil PySem.W.BT.nil))))) (.node (ho59 x0) (.node (ho75 x0) (.node (ho107 x0) (.node (ho171 x0) (.node (ho301 x0) (.node (ho559 x0) PySem.W.BT.nil PySem.W.BT.nil) PySem.W.BT.nil) (.node (ho429 x0) (.node (ho687 x0) PySem.W.BT.nil PySem.W.BT.nil) PySem.W.BT.nil)) (.node (ho235 x0) (.node (ho365 x0) (.node (ho623 x0) PySem.W.BT.nil PySem.W.BT.nil) PySem.W.BT.nil) (.node (ho495 x0) PySem.W.BT.nil PySem.W.BT.nil))) (.node (ho139 x0) (.node (ho203 x0) (.node (ho333 x0) (.node (ho591 x0) PySem.W.BT.nil PySem.W.BT.nil) PySem.W.BT.nil) (.node (ho463 x0) PySem.W.BT.nil PySem.W.BT.nil)) (.node (ho267 x0) (.node (ho397 x0) (.node (ho655 x0) PySem.W.BT.nil PySem.W.BT.nil) PySem.W.BT.nil) (.node (ho527 x0) PySem.W.BT.nil PySem.W.BT.nil)))) (.node (ho91 x0) (.node (ho123 x0) (.node (ho187 x0) (.node (ho317 x0) (.node (ho575 x0) PySem.W.BT.nil PySem.W.BT.nil) PySem.W.BT.nil) (.node (ho445 x0) PySem.W.BT.nil PySem.W.BT.nil)) (.node (ho251 x0) (.node (ho381 x0) (.node (ho639 x0) PySem.W.BT.nil PySem.W.BT.nil) PySem.W.BT.nil) (.node (ho511 x0) PySem.W.BT.nil PySem.W.BT.nil))) (.node (ho155 x0) (.node (ho219 x0) (.node (ho349 x0) (.node (ho607 x0) PySem.W.BT.nil PySem.W.BT.nil) PySem.W.BT.nil) (.node (ho479 x0) PySem.W.BT.nil PySem.W.BT.nil)) (.node (ho283 x0) (.node (ho413 x0) (.node (ho671 x0) PySem.W.BT.nil PySem.W.BT.nil) PySem.W.BT.nil) (.node (ho543 x0) PySem.W.BT.nil PySem.W.BT.nil)))))) (.node (ho458 x0) (.node (ho55 x0) (.node (ho71 x0) (.node (ho103 x0) (.node (ho167 x0) (.node (ho295 x0) (.node (ho555 x0) PySem.W.BT.nil PySem.W.BT.nil) PySem.W.BT.nil) (.node (ho425 x0) (.node (ho683 x0) PySem.W.BT.nil PySem.W.BT.nil) PySem.W.BT.nil)) (.node (ho231 x0) (.node (ho361 x0) (.node (ho619 x0) PySem.W.BT.nil PySem.W.BT.nil) PySem.W.BT.nil) (.node (ho491 x0) PySem.W.BT.nil PySem.W.BT.nil))) (.node (ho135 x0) (.node (ho199 x0) (.node (ho329 x0) (.node (ho587 x0) PySem.W.BT.nil PySem.W.BT.nil) PySem.W.BT.nil) (.node (ho459 x0) PySem.W.BT.nil PySem.W.BT.nil)) (.node (ho263 x0) (.node (ho393 x0) (.node (ho651 x0) PySem.W.BT.nil PySem.W.BT.nil) PySem.W.BT.nil) (.node (ho523 x0) PySem.W.BT.nil PySem.W.BT.nil)))) (.node (ho87 x0) (.node (ho119 x0) (.node (ho183 x0) (.node (ho313 x0) (.node (ho571 x0) PySem.W.BT.nil PySem.W.BT.nil) PySem.W.BT.nil) (.node (ho441 x0) PySem.W.BT.nil PySem.W.BT.nil)) (.node (ho247 x0) (.node (ho377 x0) (.node (ho635 x0) PySem.W.BT.nil PySem.W.BT.nil) PySem.W.BT.nil) (.node (ho507 x0) PySem.W.BT.nil PySem.W.BT.nil))) (.node (ho151 x0) (.node (ho215 x0) (.node (ho345 x0) (.node (ho603 x0) PySem.W.BT.nil PySem.W.BT.nil) PySem.W.BT.nil) (.node (ho475 x0) PySem.W.BT.nil PySem.W.BT.nil)) (.node (ho279 x0) (.node (ho409 x0) (.node (ho667 x0) PySem.W.BT.nil PySem.W.BT.nil) PySem.W.BT.nil) (.node (ho539 x0) PySem.W.BT.nil PySem.W.BT.nil))))) (.node (ho63 x0) (.node (ho79 x0) (.node (ho111 x0) (.node (ho175 x0) (.node (ho305 x0) (.node (ho563 x0) PySem.W.BT.nil PySem.W.BT.nil) PySem.W.BT.nil) (.node (ho433 x0) (.node (ho691 x0) PySem.W.BT.nil PySem.W.BT.nil) PySem.W.BT.nil)) (.node (ho239 x0) (.node (ho369 x0) (.node (ho627 x0) PySem.W.BT.nil PySem.W.BT.nil) PySem.W.BT.nil) (.node (ho499 x0) PySem.W.BT.nil PySem.W.BT.nil))) (.node (ho143 x0) (.node (ho207 x0) (.node (ho337 x0) (.node (ho595 x0) PySem.W.BT.nil PySem.W.BT.nil) PySem.W.BT.nil) (.node (ho467 x0) PySem.W.BT.nil PySem.W.BT.nil)) (.node (ho271 x0) (.node (ho401 x0) (.node (ho659 x0) PySem.W.BT.nil PySem.W.BT.nil) PySem.W.BT.nil) (.node (ho531 x0) PySem.W.BT.nil PySem.W.BT.nil)))) (.node (ho95 x0) (.node (ho127 x0) (.node (ho191 x0) (.node (ho321 x0) (.node (ho579 x0) PySem.W.BT.nil PySem.W.BT.nil) PySem.W.BT.nil) (.node (ho449 x0) PySem.W.BT.nil PySem.W.BT.nil)) (.node (ho255 x0) (.node (ho385 x0) (.node (ho643 x0) PySem.W.BT.nil PySem.W.BT.nil) PySem.W.BT.nil) (.node (ho515 x0) PySem.W.BT.nil PySem.W.BT.nil))) (.node (ho159 x0) (.node (ho223 x0) (.node (ho353 x0) (.node (ho611 x0) PySem.W.BT.nil PySem.W.BT.nil) PySem.W.BT.nil) (.node (ho483 x0) PySem.W.BT.nil PySem.W.BT.nil)) (.node (ho287 x0) (.node (ho417 x0) (.node (ho675 x0) PySem.W.BT.nil PySem.W.BT.nil) PySem.W.BT.nil) (.node (ho547 x0) PySem.W.BT.nil PySem.W.BT.nil))))))) (.node (@PySem.W.boot_o_6 x0) (.node (@PySem.W.boot_o_10 x0) (.node (ho53 x0) (.node (ho69 x0) (.node (ho101 x0) (.node (ho165 x0) (.node (ho293 x0) (.node (ho553 x0) PySem.W.BT.nil PySem.W.BT.nil) PySem.W.BT.nil) (.node (ho423 x0) (.node (ho681 x0) PySem.W.BT.nil PySem.W.BT.nil) PySem.W.BT.nil)) (.node (ho229 x0) (.node (ho359 x0) (.node (ho617 x0) PySem.W.BT.nil PySem.W.BT.nil) PySem.W.BT.nil) (.node (ho489 x0) PySem.W.BT.nil PySem.W.BT.nil))) (.node (ho133 x0) (.node (ho197 x0) (.node (ho327 x0) (.node (ho585 x0) PySem.W.BT.nil PySem.W.BT.nil) PySem.W.BT.nil) (.node (ho455 x0) PySem.W.BT.nil PySem.W.BT.nil)) (.node (ho261 x0) (.node (ho391 x0) (.node (ho649 x0) PySem.W.BT.nil PySem.W.BT.nil) PySem.W.BT.nil) (.node (ho521 x0) PySem.W.BT.nil PySem.W.BT.nil)))) (.node (ho85 x0) (.node (ho117 x0) (.node (ho181 x0) (.node (ho311 x0) (.node (ho569 x0) PySem.W.BT.nil PySem.W.BT.nil) PySem.W.BT.nil) (.node (ho439 x0) PySem.W.BT.nil PySem.W.BT.nil)) (.node (ho245 x0) (.node (ho375 x0) (.node (ho633 x0) PySem.W.BT.nil PySem.W.BT.nil) PySem.W.BT.nil) (.node (ho505 x0) PySem.W.BT.nil PySem.W.BT.nil))) (.node (ho149 x0) (.node (ho213 x0) (.node (ho343 x0) (.node (ho601 x0) PySem.W.BT.nil PySem.W.BT.nil) PySem.W.BT.nil) (.node (ho473 x0) PySem.W.BT.nil PySem.W.BT.nil)) (.node (ho277 x0) (.node (ho407 x0) (.node (ho665 x0) PySem.W.BT.nil PySem.W.BT.nil) PySem.W.BT.nil) (.node (ho537 x0) PySem.W.BT.nil PySem.W.BT.nil))))) (.node (ho61 x0) (.node (ho77 x0) (.node (ho109 x0) (.node (ho173 x0) (.node (ho303 x0) (.node (ho561 x0) PySem.W.BT.nil PySem.W.BT.nil) PySem.W.BT.nil) (.node (ho431 x0) (.node (ho689 x0) PySem.W.BT.nil PySem.W.BT.nil) PySem.W.BT.nil)) (.node (ho237 x0) (.node (ho367 x0) (.node (ho625 x0) PySem.W.BT.nil PySem.W.BT.nil) PySem.W.BT.nil) (.node (ho497 x0) PySem.W.BT.nil PySem.W.BT.nil))) (.node (ho141 x0) (.node (ho205 x0) (.node (ho335 x0) (.node (ho593 x0) PySem.W.BT.nil PySem.W.BT.nil) PySem.W.BT.nil) (.node (ho465 x0) PySem.W.BT.nil PySem.W.BT.nil)) (.node (ho269 x0) (.node (ho399 x0) (.node (ho657 x0) PySem.W.BT.nil PySem.W.BT.nil) PySem.W.BT.nil) (.node (ho529 x0) PySem.W.BT.nil PySem.W.BT.nil)))) (.node (ho93 x0) (.node (ho125 x0) (.node (ho189 x0) (.node (ho319 x0) (.node (ho577 x0) PySem.W.BT.nil PySem.W.BT.nil) PySem.W.BT.nil) (.node (ho447 x0) PySem.W.BT.nil PySem.W.BT.nil)) (.node (ho253 x0) (.node (ho383 x0) (.node (ho641 x0) PySem.W.BT.nil PySem.W.BT.nil) PySem.W.BT.nil) (.node (ho513 x0) PySem.W.BT.nil PySem.W.BT.nil))) (.node (ho157 x0) (.node (ho221 x0) (.node (ho351 x0) (.node (ho609 x0) PySem.W.BT.nil PySem.W.BT.nil) PySem.W.BT.nil) (.node (ho481 x0) PySem.W.BT.nil PySem.W.BT.nil)) (.node (ho285 x0) (.node (ho415 x0) (.node (ho673 x0) PySem.W.BT.nil PySem.W.BT.nil) PySem.W.BT.nil) (.node (ho545 x0) PySem.W.BT.nil PySem.W.BT.nil)))))) (.node (ho46 x0) (.node (ho57 x0) (.node (ho73 x0) (.node (ho105 x0) (.node (ho169 x0) (.node (ho299 x0) (.node (ho557 x0) PySem.W.BT.nil PySem.W.BT.nil) PySem.W.BT.nil) (.node (ho427 x0) (.node (ho685 x0) PySem.W.BT.nil PySem.W.BT.nil) PySem.W.BT.nil)) (.node (ho233 x0) (.node (ho363 x0) (.node (ho621 x0) PySem.W.BT.nil PySem.W.BT.nil) PySem.W.BT.nil) (.node (ho493 x0) PySem.W.BT.nil PySem.W.BT.nil))) (.node (ho137 x0) (.node (ho201 x0) (.node (ho331 x0) (.node (ho589 x0) PySem.W.BT.nil PySem.W.BT.nil) PySem.W.BT.nil) (.node (ho461 x0) PySem.W.BT.nil PySem.W.BT.nil)) (.node (ho265 x0) (.node (ho395 x0) (.node (ho653 x0) PySem.W.BT.nil PySem.W.BT.nil) PySem.W.BT.nil) (.node (ho525 x0) PySem.W.BT.nil PySem.W.BT.nil)))) (.node (ho89 x0) (.node (ho121 x0) (.node (ho185 x0) (.node (ho315 x0) (.node (ho573 x0) PySem.W.BT.nil PySem.W.BT.nil) PySem.W.BT.nil) (.node (ho443 x0) PySem.W.BT.nil PySem.W.BT.nil)) (.node (ho249 x0) (.node (ho379 x0) (.node (ho637 x0) PySem.W.BT.nil PySem.W.BT.nil) PySem.W.BT.nil) (.node (ho509 x0) PySem.W.BT.nil PySem.W.BT.nil))) (.node (ho153 x0) (.node (ho217 x0) (.node (ho347 x0) (.node (ho605 x0) PySem.W.BT.nil PySem.W.BT.nil) PySem.W.BT.nil) (.node (ho477 x0) PySem.W.BT.nil PySem.W.BT.nil)) (.node (ho281 x0) (.node (ho411 x0) (.node (ho669 x0) PySem.W.BT.nil PySem.W.BT.nil) PySem.W.BT.nil) (.node (ho541 x0) PySem.W.BT.nil PySem.W.BT.nil))))) (.node (ho65 x0) (.node (ho81 x0) (.node (ho113 x0) (.node (ho177 x0) (.node (ho307 x0) (.node (ho565 x0) PySem.W.BT.nil PySem.W.BT.nil) PySem.W.BT.nil) (.node (ho435 x0) (.node (ho693 x0) PySem.W.BT.nil PySem.W.BT.nil) PySem.W.BT.nil)) (.node (ho241 x0) (.node (ho371 x0) (.node (ho629 x0) PySem.W.BT.nil PySem.W.BT.nil) PySem.W.BT.nil) (.node (ho501 x0) PySem.W.BT.nil PySem.W.BT.nil))) (.node (ho145 x0) (.node (ho209 x0) (.node (ho339 x0) (.node (ho597 x0) PySem.W.BT.nil PySem.W.BT.nil) PySem.W.BT.nil) (.node (ho469 x0) PySem.W.BT.nil PySem.W.BT.nil)) (.node (ho273 x0) (.node (ho403 x0) (.node (ho661 x0) PySem.W.BT.nil PySem.W.BT.nil) PySem.W.BT.nil) (.node (ho533 x0) PySem.W.BT.nil PySem.W.BT.nil)))) (.node (ho97 x0) (.node (ho129 x0) (.node (ho193 x0) (.node (ho323 x0) (.node (ho581 x0) PySem.W.BT.nil PySem.W.BT.nil) PySem.W.BT.nil) (.node (ho451 x0) PySem.W.BT.nil PySem.W.BT.nil)) (.node (ho257 x0) (.node (ho387 x0) (.node (ho645 x0) PySem.W.BT.nil PySem.W.BT.nil) PySem.W.BT.nil) (.node (ho517 x0) PySem.W.BT.nil PySem.W.BT.nil))) (.node (ho161 x0) (.node (ho225 x0) (.node (ho355 x0) (.node (ho613 x0) PySem.W.BT.nil PySem.W.BT.nil) PySem.W.BT.nil) (.node (ho485 x0) PySem.W.BT.nil PySem.W.BT.nil)) (.node (ho289 x0) (.node (ho419 x0) (.node (ho677 x0) PySem.W.BT.nil PySem.W.BT.nil) PySem.W.BT.nil) (.node (ho549 x0) PySem.W.BT.nil PySem.W.BT.nil))))))))))
theorem hproof694 : (∀ (x0 : PySem.World), (@Eq (∀ (x1 : PySem.OsState), (@Option (@Prod PySem.Flow (@Prod PySem.W.SharedT (@Prod PySem.Code PySem.Pos))))) (fun (x1 : PySem.OsState) => (@PySem.W.segRunT PySem.treeTable hPG x0 (nat_lit 11) (some (.ref 6)) (nat_lit 1) (nat_lit 1100) (.mk (@htree456 (@PySem.World.params x0)) (nat_lit 420) (.mk [] [] [] 0 [] [] Bool.false #[] [] 0 Bool.false Bool.false Bool.false 0 [2000, 10, 10] Bool.false 0 Bool.true [] [] 0 Bool.false) (@Array.mk PySem.GenState []) (.mk 0 0 0 0) (nat_lit 775) x1) (@PySem.W.piecesOf hsts456 henv41 (.body (@PySem.W.behindTheImports hPG) henv41) (.mk 318 0 328 12) [(@PySem.W.topFrame (.mk 0 0 0 0))]))) (fun (x1 : PySem.OsState) => (some (PySem.Flow.next, ((.mk (@htree694 (@PySem.World.params x0)) (nat_lit 656) (.mk [] [] [] 0 [] [] Bool.false #[] [] 0 Bool.false Bool.false Bool.false 0 [2000, 10, 10] Bool.false 0 Bool.true [] [] 0 Bool.false) (@Array.mk PySem.GenState []) (.mk 0 0 0 0) (nat_lit 1077) x1), ((.body (@PySem.W.behindTheImports hPG) henv41), (.mk 628 0 643 15)))))))) := by intros; kernel_rfl
theorem hproof695 : (∀ (x0 : PySem.World), (@Eq (∀ (x1 : PySem.OsState), (@Option PySem.Shared)) (fun (x1 : PySem.OsState) => (@PySem.W.topRun PySem.treeTable hPG x0 (nat_lit 11) (some (.ref 6)) (nat_lit 2) (@PySem.W.SharedT.abs (.mk (@htree694 (@PySem.World.params x0)) (nat_lit 656) (.mk [] [] [] 0 [] [] Bool.false #[] [] 0 Bool.false Bool.false Bool.false 0 [2000, 10, 10] Bool.false 0 Bool.true [] [] 0 Bool.false) (@Array.mk PySem.GenState []) (.mk 0 0 0 0) (nat_lit 1077) x1)) (.mk (@PySem.W.doneF PySem.Flow.next) (.body (@PySem.W.behindTheImports hPG) henv41) (.mk 628 0 643 15) [(@PySem.W.topFrame (.mk 0 0 0 0))]))) (fun (x1 : PySem.OsState) => (some (.mk (@hheap694 (@PySem.World.params x0)) (@Array.mk PySem.GenState []) (.mk 0 0 0 0) (nat_lit 1077) x1))))) := by intros; kernel_rfl
theorem hproof696 : (∀ (x0 : PySem.World), (∀ (x1 : PySem.OsState), (@Eq (@Option PySem.Shared) (@PySem.W.topRun PySem.treeTable hPG x0 (nat_lit 11) (some (.ref 6)) (@Nat.add (nat_lit 12) (@Nat.add (nat_lit 1) (@Nat.add (nat_lit 1485) (@Nat.add (nat_lit 1499) (@Nat.add (nat_lit 1100) (nat_lit 2)))))) (.mk (@PySem.W.boot_heap (@PySem.World.params x0)) (@Array.mk PySem.GenState []) PySem.W.boot_drawn PySem.W.boot_toks x1) (@PySem.W.topStub hPG)) (some (.mk (@hheap694 (@PySem.World.params x0)) (@Array.mk PySem.GenState []) (.mk 0 0 0 0) (nat_lit 1077) x1))))) := (fun (x0 : PySem.World) => (fun (x1 : PySem.OsState) => (@PySem.W.go_top PySem.treeTable hPG x0 (nat_lit 11) (some (.ref 6)) (nat_lit 12) (@Nat.add (nat_lit 1) (@Nat.add (nat_lit 1485) (@Nat.add (nat_lit 1499) (@Nat.add (nat_lit 1100) (nat_lit 2))))) (.mk (@PySem.W.boot_heap (@PySem.World.params x0)) (@Array.mk PySem.GenState []) PySem.W.boot_drawn PySem.W.boot_toks x1) (.mk (@hheap46 (@PySem.World.params x0)) (@Array.mk PySem.GenState []) (.mk 0 0 0 0) (nat_lit 187) x1) (.mk (@hheap694 (@PySem.World.params x0)) (@Array.mk PySem.GenState []) (.mk 0 0 0 0) (nat_lit 1077) x1) (@PySem.W.topStub hPG) (.mk (@PySem.denote PySem.treeTable (.body (@PySem.W.behindTheImports hPG) henv41)) (.body (@PySem.W.behindTheImports hPG) henv41) (.mk 0 0 0 0) [(@PySem.W.topFrame (.mk 0 0 0 0))]) (@congrFun PySem.OsState (fun (x2 : PySem.OsState) => (@Option (@Prod PySem.Shared PySem.Thread))) (fun (x2 : PySem.OsState) => (@PySem.W.topGo PySem.treeTable hPG x0 (nat_lit 11) (some (.ref 6)) (nat_lit 12) (.mk (@PySem.W.boot_heap (@PySem.World.params x0)) (@Array.mk PySem.GenState []) PySem.W.boot_drawn PySem.W.boot_toks x2) (@PySem.W.topStub hPG))) (fun (x2 : PySem.OsState) => (some ((.mk (@hheap46 (@PySem.World.params x0)) (@Array.mk PySem.GenState []) (.mk 0 0 0 0) (nat_lit 187) x2), (.mk (@PySem.denote PySem.treeTable (.body (@PySem.W.behindTheImports hPG) henv41)) (.body (@PySem.W.behindTheImports hPG) henv41) (.mk 0 0 0 0) [(@PySem.W.topFrame (.mk 0 0 0 0))])))) (@hproof46 x0) x1) (@PySem.W.piece_block PySem.treeTable hPG x0 (nat_lit 11) (some (.ref 6)) henv41 (.mk 0 0 0 0) (nat_lit 1) (@Nat.add (nat_lit 1485) (@Nat.add (nat_lit 1499) (@Nat.add (nat_lit 1100) (nat_lit 2)))) (.mk (@hheap46 (@PySem.World.params x0)) (@Array.mk PySem.GenState []) (.mk 0 0 0 0) (nat_lit 187) x1) (@PySem.W.SharedT.abs (.mk (@htree46 (@PySem.World.params x0)) (nat_lit 15) (.mk [] [] [] 0 [] [] Bool.false #[] [] 0 Bool.false Bool.false Bool.false 0 [2000, 10, 10] Bool.false 0 Bool.true [] [] 0 Bool.false) (@Array.mk PySem.GenState []) (.mk 0 0 0 0) (nat_lit 187) x1)) (.mk (@hheap694 (@PySem.World.params x0)) (@Array.mk PySem.GenState []) (.mk 0 0 0 0) (nat_lit 1077) x1) (@PySem.W.behindTheImports hPG) (.body (@PySem.W.behindTheImports hPG) henv41) (.mk 0 0 0 0) (.mk 0 0 0 0) (@congrFun PySem.OsState (fun (x2 : PySem.OsState) => (@Option (@Prod PySem.Flow (@Prod PySem.Shared (@Prod PySem.Code PySem.Pos))))) (fun (x2 : PySem.OsState) => (@PySem.W.segRun PySem.treeTable hPG x0 (nat_lit 11) (some (.ref 6)) (nat_lit 1) (nat_lit 1) (.mk (@hheap46 (@PySem.World.params x0)) (@Array.mk PySem.GenState []) (.mk 0 0 0 0) (nat_lit 187) x2) (@PySem.W.blockOf (@PySem.W.behindTheImports hPG) henv41 (.body (@PySem.W.behindTheImports hPG) henv41) (.mk 0 0 0 0) [(@PySem.W.topFrame (.mk 0 0 0 0))]))) (fun (x2 : PySem.OsState) => (some (PySem.Flow.next, ((@PySem.W.SharedT.abs (.mk (@htree46 (@PySem.World.params x0)) (nat_lit 15) (.mk [] [] [] 0 [] [] Bool.false #[] [] 0 Bool.false Bool.false Bool.false 0 [2000, 10, 10] Bool.false 0 Bool.true [] [] 0 Bool.false) (@Array.mk PySem.GenState []) (.mk 0 0 0 0) (nat_lit 187) x2)), ((.body (@PySem.W.behindTheImports hPG) henv41), (.mk 0 0 0 0)))))) (@hproof47 x0) x1) (@PySem.W.piece_app PySem.treeTable hPG x0 (nat_lit 11) (some (.ref 6)) henv41 (.mk 0 0 0 0) (nat_lit 1485) (@Nat.add (nat_lit 1499) (@Nat.add (nat_lit 1100) (nat_lit 2))) (@PySem.W.SharedT.abs (.mk (@htree46 (@PySem.World.params x0)) (nat_lit 15) (.mk [] [] [] 0 [] [] Bool.false #[] [] 0 Bool.false Bool.false Bool.false 0 [2000, 10, 10] Bool.false 0 Bool.true [] [] 0 Bool.false) (@Array.mk PySem.GenState []) (.mk 0 0 0 0) (nat_lit 187) x1)) (@PySem.W.SharedT.abs (.mk (@htree296 (@PySem.World.params x0)) (nat_lit 262) (.mk [] [] [] 0 [] [] Bool.false #[] [] 0 Bool.false Bool.false Bool.false 0 [2000, 10, 10] Bool.false 0 Bool.true [] [] 0 Bool.false) (@Array.mk PySem.GenState []) (.mk 0 0 0 0) (nat_lit 536) x1)) (.mk (@hheap694 (@PySem.World.params x0)) (@Array.mk PySem.GenState []) (.mk 0 0 0 0) (nat_lit 1077) x1) hsts47 (@HAppend.hAppend (@List PySem.Stmt) (@List PySem.Stmt) (@List PySem.Stmt) (@instHAppendOfAppend (@List PySem.Stmt) (@List.instAppend PySem.Stmt)) hsts296 (@HAppend.hAppend (@List PySem.Stmt) (@List PySem.Stmt) (@List PySem.Stmt) (@instHAppendOfAppend (@List PySem.Stmt) (@List.instAppend PySem.Stmt)) hsts456 [])) (.body (@PySem.W.behindTheImports hPG) henv41) (.mk 0 0 0 0) (.mk 218 0 249 65) (@congrFun PySem.OsState (fun (x2 : PySem.OsState) => (@Option (@Prod PySem.Flow (@Prod PySem.Shared (@Prod PySem.Code PySem.Pos))))) (fun (x2 : PySem.OsState) => (@PySem.W.segRun PySem.treeTable hPG x0 (nat_lit 11) (some (.ref 6)) (nat_lit 1) (nat_lit 1485) (@PySem.W.SharedT.abs (.mk (@htree46 (@PySem.World.params x0)) (nat_lit 15) (.mk [] [] [] 0 [] [] Bool.false #[] [] 0 Bool.false Bool.false Bool.false 0 [2000, 10, 10] Bool.false 0 Bool.true [] [] 0 Bool.false) (@Array.mk PySem.GenState []) (.mk 0 0 0 0) (nat_lit 187) x2)) (@PySem.W.piecesOf hsts47 henv41 (.body (@PySem.W.behindTheImports hPG) henv41) (.mk 0 0 0 0) [(@PySem.W.topFrame (.mk 0 0 0 0))]))) (fun (x2 : PySem.OsState) => (some (PySem.Flow.next, ((@PySem.W.SharedT.abs (.mk (@htree296 (@PySem.World.params x0)) (nat_lit 262) (.mk [] [] [] 0 [] [] Bool.false #[] [] 0 Bool.false Bool.false Bool.false 0 [2000, 10, 10] Bool.false 0 Bool.true [] [] 0 Bool.false) (@Array.mk PySem.GenState []) (.mk 0 0 0 0) (nat_lit 536) x2)), ((.body (@PySem.W.behindTheImports hPG) henv41), (.mk 218 0 249 65)))))) ((fun (x2 : PySem.World) => (@funext PySem.OsState (fun (x3 : PySem.OsState) => (@Option (@Prod PySem.Flow (@Prod PySem.Shared (@Prod PySem.Code PySem.Pos))))) (fun (x3 : PySem.OsState) => (@PySem.W.segRun PySem.treeTable hPG x2 (nat_lit 11) (some (.ref 6)) (nat_lit 1) (nat_lit 1485) (@PySem.W.SharedT.abs (.mk (@htree46 (@PySem.World.params x2)) (nat_lit 15) (.mk [] [] [] 0 [] [] Bool.false #[] [] 0 Bool.false Bool.false Bool.false 0 [2000, 10, 10] Bool.false 0 Bool.true [] [] 0 Bool.false) (@Array.mk PySem.GenState []) (.mk 0 0 0 0) (nat_lit 187) x3)) (@PySem.W.piecesOf hsts47 henv41 (.body (@PySem.W.behindTheImports hPG) henv41) (.mk 0 0 0 0) [(@PySem.W.topFrame (.mk 0 0 0 0))]))) (fun (x3 : PySem.OsState) => (some (PySem.Flow.next, ((@PySem.W.SharedT.abs (.mk (@htree296 (@PySem.World.params x2)) (nat_lit 262) (.mk [] [] [] 0 [] [] Bool.false #[] [] 0 Bool.false Bool.false Bool.false 0 [2000, 10, 10] Bool.false 0 Bool.true [] [] 0 Bool.false) (@Array.mk PySem.GenState []) (.mk 0 0 0 0) (nat_lit 536) x3)), ((.body (@PySem.W.behindTheImports hPG) henv41), (.mk 218 0 249 65)))))) (fun (x3 : PySem.OsState) => (@PySem.W.segRun_of PySem.treeTable hPG x2 (nat_lit 11) (some (.ref 6)) (nat_lit 1) (nat_lit 1485) (.mk (@htree46 (@PySem.World.params x2)) (nat_lit 15) (.mk [] [] [] 0 [] [] Bool.false #[] [] 0 Bool.false Bool.false Bool.false 0 [2000, 10, 10] Bool.false 0 Bool.true [] [] 0 Bool.false) (@Array.mk PySem.GenState []) (.mk 0 0 0 0) (nat_lit 187) x3) (.mk (@htree296 (@PySem.World.params x2)) (nat_lit 262) (.mk [] [] [] 0 [] [] Bool.false #[] [] 0 Bool.false Bool.false Bool.false 0 [2000, 10, 10] Bool.false 0 Bool.true [] [] 0 Bool.false) (@Array.mk PySem.GenState []) (.mk 0 0 0 0) (nat_lit 536) x3) (@PySem.W.piecesOf hsts47 henv41 (.body (@PySem.W.behindTheImports hPG) henv41) (.mk 0 0 0 0) [(@PySem.W.topFrame (.mk 0 0 0 0))]) PySem.Flow.next (.body (@PySem.W.behindTheImports hPG) henv41) (.mk 218 0 249 65) (@congrFun PySem.OsState (fun (x4 : PySem.OsState) => (@Option (@Prod PySem.Flow (@Prod PySem.W.SharedT (@Prod PySem.Code PySem.Pos))))) (fun (x4 : PySem.OsState) => (@PySem.W.segRunT PySem.treeTable hPG x2 (nat_lit 11) (some (.ref 6)) (nat_lit 1) (nat_lit 1485) (.mk (@htree46 (@PySem.World.params x2)) (nat_lit 15) (.mk [] [] [] 0 [] [] Bool.false #[] [] 0 Bool.false Bool.false Bool.false 0 [2000, 10, 10] Bool.false 0 Bool.true [] [] 0 Bool.false) (@Array.mk PySem.GenState []) (.mk 0 0 0 0) (nat_lit 187) x4) (@PySem.W.piecesOf hsts47 henv41 (.body (@PySem.W.behindTheImports hPG) henv41) (.mk 0 0 0 0) [(@PySem.W.topFrame (.mk 0 0 0 0))]))) (fun (x4 : PySem.OsState) => (some (PySem.Flow.next, ((.mk (@htree296 (@PySem.World.params x2)) (nat_lit 262) (.mk [] [] [] 0 [] [] Bool.false #[] [] 0 Bool.false Bool.false Bool.false 0 [2000, 10, 10] Bool.false 0 Bool.true [] [] 0 Bool.false) (@Array.mk PySem.GenState []) (.mk 0 0 0 0) (nat_lit 536) x4), ((.body (@PySem.W.behindTheImports hPG) henv41), (.mk 218 0 249 65)))))) (@hproof296 x2) x3))))) x0) x1) (@PySem.W.piece_app PySem.treeTable hPG x0 (nat_lit 11) (some (.ref 6)) henv41 (.mk 0 0 0 0) (nat_lit 1499) (@Nat.add (nat_lit 1100) (nat_lit 2)) (@PySem.W.SharedT.abs (.mk (@htree296 (@PySem.World.params x0)) (nat_lit 262) (.mk [] [] [] 0 [] [] Bool.false #[] [] 0 Bool.false Bool.false Bool.false 0 [2000, 10, 10] Bool.false 0 Bool.true [] [] 0 Bool.false) (@Array.mk PySem.GenState []) (.mk 0 0 0 0) (nat_lit 536) x1)) (@PySem.W.SharedT.abs (.mk (@htree456 (@PySem.World.params x0)) (nat_lit 420) (.mk [] [] [] 0 [] [] Bool.false #[] [] 0 Bool.false Bool.false Bool.false 0 [2000, 10, 10] Bool.false 0 Bool.true [] [] 0 Bool.false) (@Array.mk PySem.GenState []) (.mk 0 0 0 0) (nat_lit 775) x1)) (.mk (@hheap694 (@PySem.World.params x0)) (@Array.mk PySem.GenState []) (.mk 0 0 0 0) (nat_lit 1077) x1) hsts296 (@HAppend.hAppend (@List PySem.Stmt) (@List PySem.Stmt) (@List PySem.Stmt) (@instHAppendOfAppend (@List PySem.Stmt) (@List.instAppend PySem.Stmt)) hsts456 []) (.body (@PySem.W.behindTheImports hPG) henv41) (.mk 218 0 249 65) (.mk 318 0 328 12) (@congrFun PySem.OsState (fun (x2 : PySem.OsState) => (@Option (@Prod PySem.Flow (@Prod PySem.Shared (@Prod PySem.Code PySem.Pos))))) (fun (x2 : PySem.OsState) => (@PySem.W.segRun PySem.treeTable hPG x0 (nat_lit 11) (some (.ref 6)) (nat_lit 1) (nat_lit 1499) (@PySem.W.SharedT.abs (.mk (@htree296 (@PySem.World.params x0)) (nat_lit 262) (.mk [] [] [] 0 [] [] Bool.false #[] [] 0 Bool.false Bool.false Bool.false 0 [2000, 10, 10] Bool.false 0 Bool.true [] [] 0 Bool.false) (@Array.mk PySem.GenState []) (.mk 0 0 0 0) (nat_lit 536) x2)) (@PySem.W.piecesOf hsts296 henv41 (.body (@PySem.W.behindTheImports hPG) henv41) (.mk 218 0 249 65) [(@PySem.W.topFrame (.mk 0 0 0 0))]))) (fun (x2 : PySem.OsState) => (some (PySem.Flow.next, ((@PySem.W.SharedT.abs (.mk (@htree456 (@PySem.World.params x0)) (nat_lit 420) (.mk [] [] [] 0 [] [] Bool.false #[] [] 0 Bool.false Bool.false Bool.false 0 [2000, 10, 10] Bool.false 0 Bool.true [] [] 0 Bool.false) (@Array.mk PySem.GenState []) (.mk 0 0 0 0) (nat_lit 775) x2)), ((.body (@PySem.W.behindTheImports hPG) henv41), (.mk 318 0 328 12)))))) ((fun (x2 : PySem.World) => (@funext PySem.OsState (fun (x3 : PySem.OsState) => (@Option (@Prod PySem.Flow (@Prod PySem.Shared (@Prod PySem.Code PySem.Pos))))) (fun (x3 : PySem.OsState) => (@PySem.W.segRun PySem.treeTable hPG x2 (nat_lit 11) (some (.ref 6)) (nat_lit 1) (nat_lit 1499) (@PySem.W.SharedT.abs (.mk (@htree296 (@PySem.World.params x2)) (nat_lit 262) (.mk [] [] [] 0 [] [] Bool.false #[] [] 0 Bool.false Bool.false Bool.false 0 [2000, 10, 10] Bool.false 0 Bool.true [] [] 0 Bool.false) (@Array.mk PySem.GenState []) (.mk 0 0 0 0) (nat_lit 536) x3)) (@PySem.W.piecesOf hsts296 henv41 (.body (@PySem.W.behindTheImports hPG) henv41) (.mk 218 0 249 65) [(@PySem.W.topFrame (.mk 0 0 0 0))]))) (fun (x3 : PySem.OsState) => (some (PySem.Flow.next, ((@PySem.W.SharedT.abs (.mk (@htree456 (@PySem.World.params x2)) (nat_lit 420) (.mk [] [] [] 0 [] [] Bool.false #[] [] 0 Bool.false Bool.false Bool.false 0 [2000, 10, 10] Bool.false 0 Bool.true [] [] 0 Bool.false) (@Array.mk PySem.GenState []) (.mk 0 0 0 0) (nat_lit 775) x3)), ((.body (@PySem.W.behindTheImports hPG) henv41), (.mk 318 0 328 12)))))) (fun (x3 : PySem.OsState) => (@PySem.W.segRun_of PySem.treeTable hPG x2 (nat_lit 11) (some (.ref 6)) (nat_lit 1) (nat_lit 1499) (.mk (@htree296 (@PySem.World.params x2)) (nat_lit 262) (.mk [] [] [] 0 [] [] Bool.false #[] [] 0 Bool.false Bool.false Bool.false 0 [2000, 10, 10] Bool.false 0 Bool.true [] [] 0 Bool.false) (@Array.mk PySem.GenState []) (.mk 0 0 0 0) (nat_lit 536) x3) (.mk (@htree456 (@PySem.World.params x2)) (nat_lit 420) (.mk [] [] [] 0 [] [] Bool.false #[] [] 0 Bool.false Bool.false Bool.false 0 [2000, 10, 10] Bool.false 0 Bool.true [] [] 0 Bool.false) (@Array.mk PySem.GenState []) (.mk 0 0 0 0) (nat_lit 775) x3) (@PySem.W.piecesOf hsts296 henv41 (.body (@PySem.W.behindTheImports hPG) henv41) (.mk 218 0 249 65) [(@PySem.W.topFrame (.mk 0 0 0 0))]) PySem.Flow.next (.body (@PySem.W.behindTheImports hPG) henv41) (.mk 318 0 328 12) (@congrFun PySem.OsState (fun (x4 : PySem.OsState) => (@Option (@Prod PySem.Flow (@Prod PySem.W.SharedT (@Prod PySem.Code PySem.Pos))))) (fun (x4 : PySem.OsState) => (@PySem.W.segRunT PySem.treeTable hPG x2 (nat_lit 11) (some (.ref 6)) (nat_lit 1) (nat_lit 1499) (.mk (@htree296 (@PySem.World.params x2)) (nat_lit 262) (.mk [] [] [] 0 [] [] Bool.false #[] [] 0 Bool.false Bool.false Bool.false 0 [2000, 10, 10] Bool.false 0 Bool.true [] [] 0 Bool.false) (@Array.mk PySem.GenState []) (.mk 0 0 0 0) (nat_lit 536) x4) (@PySem.W.piecesOf hsts296 henv41 (.body (@PySem.W.behindTheImports hPG) henv41) (.mk 218 0 249 65) [(@PySem.W.topFrame (.mk 0 0 0 0))]))) (fun (x4 : PySem.OsState) => (some (PySem.Flow.next, ((.mk (@htree456 (@PySem.World.params x2)) (nat_lit 420) (.mk [] [] [] 0 [] [] Bool.false #[] [] 0 Bool.false Bool.false Bool.false 0 [2000, 10, 10] Bool.false 0 Bool.true [] [] 0 Bool.false) (@Array.mk PySem.GenState []) (.mk 0 0 0 0) (nat_lit 775) x4), ((.body (@PySem.W.behindTheImports hPG) henv41), (.mk 318 0 328 12)))))) (@hproof456 x2) x3))))) x0) x1) (@PySem.W.piece_app PySem.treeTable hPG x0 (nat_lit 11) (some (.ref 6)) henv41 (.mk 0 0 0 0) (nat_lit 1100) (nat_lit 2) (@PySem.W.SharedT.abs (.mk (@htree456 (@PySem.World.params x0)) (nat_lit 420) (.mk [] [] [] 0 [] [] Bool.false #[] [] 0 Bool.false Bool.false Bool.false 0 [2000, 10, 10] Bool.false 0 Bool.true [] [] 0 Bool.false) (@Array.mk PySem.GenState []) (.mk 0 0 0 0) (nat_lit 775) x1)) (@PySem.W.SharedT.abs (.mk (@htree694 (@PySem.World.params x0)) (nat_lit 656) (.mk [] [] [] 0 [] [] Bool.false #[] [] 0 Bool.false Bool.false Bool.false 0 [2000, 10, 10] Bool.false 0 Bool.true [] [] 0 Bool.false) (@Array.mk PySem.GenState []) (.mk 0 0 0 0) (nat_lit 1077) x1)) (.mk (@hheap694 (@PySem.World.params x0)) (@Array.mk PySem.GenState []) (.mk 0 0 0 0) (nat_lit 1077) x1) hsts456 [] (.body (@PySem.W.behindTheImports hPG) henv41) (.mk 318 0 328 12) (.mk 628 0 643 15) (@congrFun PySem.OsState (fun (x2 : PySem.OsState) => (@Option (@Prod PySem.Flow (@Prod PySem.Shared (@Prod PySem.Code PySem.Pos))))) (fun (x2 : PySem.OsState) => (@PySem.W.segRun PySem.treeTable hPG x0 (nat_lit 11) (some (.ref 6)) (nat_lit 1) (nat_lit 1100) (@PySem.W.SharedT.abs (.mk (@htree456 (@PySem.World.params x0)) (nat_lit 420) (.mk [] [] [] 0 [] [] Bool.false #[] [] 0 Bool.false Bool.false Bool.false 0 [2000, 10, 10] Bool.false 0 Bool.true [] [] 0 Bool.false) (@Array.mk PySem.GenState []) (.mk 0 0 0 0) (nat_lit 775) x2)) (@PySem.W.piecesOf hsts456 henv41 (.body (@PySem.W.behindTheImports hPG) henv41) (.mk 318 0 328 12) [(@PySem.W.topFrame (.mk 0 0 0 0))]))) (fun (x2 : PySem.OsState) => (some (PySem.Flow.next, ((@PySem.W.SharedT.abs (.mk (@htree694 (@PySem.World.params x0)) (nat_lit 656) (.mk [] [] [] 0 [] [] Bool.false #[] [] 0 Bool.false Bool.false Bool.false 0 [2000, 10, 10] Bool.false 0 Bool.true [] [] 0 Bool.false) (@Array.mk PySem.GenState []) (.mk 0 0 0 0) (nat_lit 1077) x2)), ((.body (@PySem.W.behindTheImports hPG) henv41), (.mk 628 0 643 15)))))) ((fun (x2 : PySem.World) => (@funext PySem.OsState (fun (x3 : PySem.OsState) => (@Option (@Prod PySem.Flow (@Prod PySem.Shared (@Prod PySem.Code PySem.Pos))))) (fun (x3 : PySem.OsState) => (@PySem.W.segRun PySem.treeTable hPG x2 (nat_lit 11) (some (.ref 6)) (nat_lit 1) (nat_lit 1100) (@PySem.W.SharedT.abs (.mk (@htree456 (@PySem.World.params x2)) (nat_lit 420) (.mk [] [] [] 0 [] [] Bool.false #[] [] 0 Bool.false Bool.false Bool.false 0 [2000, 10, 10] Bool.false 0 Bool.true [] [] 0 Bool.false) (@Array.mk PySem.GenState []) (.mk 0 0 0 0) (nat_lit 775) x3)) (@PySem.W.piecesOf hsts456 henv41 (.body (@PySem.W.behindTheImports hPG) henv41) (.mk 318 0 328 12) [(@PySem.W.topFrame (.mk 0 0 0 0))]))) (fun (x3 : PySem.OsState) => (some (PySem.Flow.next, ((@PySem.W.SharedT.abs (.mk (@htree694 (@PySem.World.params x2)) (nat_lit 656) (.mk [] [] [] 0 [] [] Bool.false #[] [] 0 Bool.false Bool.false Bool.false 0 [2000, 10, 10] Bool.false 0 Bool.true [] [] 0 Bool.false) (@Array.mk PySem.GenState []) (.mk 0 0 0 0) (nat_lit 1077) x3)), ((.body (@PySem.W.behindTheImports hPG) henv41), (.mk 628 0 643 15)))))) (fun (x3 : PySem.OsState) => (@PySem.W.segRun_of PySem.treeTable hPG x2 (nat_lit 11) (some (.ref 6)) (nat_lit 1) (nat_lit 1100) (.mk (@htree456 (@PySem.World.params x2)) (nat_lit 420) (.mk [] [] [] 0 [] [] Bool.false #[] [] 0 Bool.false Bool.false Bool.false 0 [2000, 10, 10] Bool.false 0 Bool.true [] [] 0 Bool.false) (@Array.mk PySem.GenState []) (.mk 0 0 0 0) (nat_lit 775) x3) (.mk (@htree694 (@PySem.World.params x2)) (nat_lit 656) (.mk [] [] [] 0 [] [] Bool.false #[] [] 0 Bool.false Bool.false Bool.false 0 [2000, 10, 10] Bool.false 0 Bool.true [] [] 0 Bool.false) (@Array.mk PySem.GenState []) (.mk 0 0 0 0) (nat_lit 1077) x3) (@PySem.W.piecesOf hsts456 henv41 (.body (@PySem.W.behindTheImports hPG) henv41) (.mk 318 0 328 12) [(@PySem.W.topFrame (.mk 0 0 0 0))]) PySem.Flow.next (.body (@PySem.W.behindTheImports hPG) henv41) (.mk 628 0 643 15) (@congrFun PySem.OsState (fun (x4 : PySem.OsState) => (@Option (@Prod PySem.Flow (@Prod PySem.W.SharedT (@Prod PySem.Code PySem.Pos))))) (fun (x4 : PySem.OsState) => (@PySem.W.segRunT PySem.treeTable hPG x2 (nat_lit 11) (some (.ref 6)) (nat_lit 1) (nat_lit 1100) (.mk (@htree456 (@PySem.World.params x2)) (nat_lit 420) (.mk [] [] [] 0 [] [] Bool.false #[] [] 0 Bool.false Bool.false Bool.false 0 [2000, 10, 10] Bool.false 0 Bool.true [] [] 0 Bool.false) (@Array.mk PySem.GenState []) (.mk 0 0 0 0) (nat_lit 775) x4) (@PySem.W.piecesOf hsts456 henv41 (.body (@PySem.W.behindTheImports hPG) henv41) (.mk 318 0 328 12) [(@PySem.W.topFrame (.mk 0 0 0 0))]))) (fun (x4 : PySem.OsState) => (some (PySem.Flow.next, ((.mk (@htree694 (@PySem.World.params x2)) (nat_lit 656) (.mk [] [] [] 0 [] [] Bool.false #[] [] 0 Bool.false Bool.false Bool.false 0 [2000, 10, 10] Bool.false 0 Bool.true [] [] 0 Bool.false) (@Array.mk PySem.GenState []) (.mk 0 0 0 0) (nat_lit 1077) x4), ((.body (@PySem.W.behindTheImports hPG) henv41), (.mk 628 0 643 15)))))) (@hproof694 x2) x3))))) x0) x1) (@congrFun PySem.OsState (fun (x2 : PySem.OsState) => (@Option PySem.Shared)) (fun (x2 : PySem.OsState) => (@PySem.W.topRun PySem.treeTable hPG x0 (nat_lit 11) (some (.ref 6)) (nat_lit 2) (@PySem.W.SharedT.abs (.mk (@htree694 (@PySem.World.params x0)) (nat_lit 656) (.mk [] [] [] 0 [] [] Bool.false #[] [] 0 Bool.false Bool.false Bool.false 0 [2000, 10, 10] Bool.false 0 Bool.true [] [] 0 Bool.false) (@Array.mk PySem.GenState []) (.mk 0 0 0 0) (nat_lit 1077) x2)) (.mk (@PySem.W.doneF PySem.Flow.next) (.body (@PySem.W.behindTheImports hPG) henv41) (.mk 628 0 643 15) [(@PySem.W.topFrame (.mk 0 0 0 0))]))) (fun (x2 : PySem.OsState) => (some (.mk (@hheap694 (@PySem.World.params x0)) (@Array.mk PySem.GenState []) (.mk 0 0 0 0) (nat_lit 1077) x2))) (@hproof695 x0) x1))))))))
theorem hs0 : (@Eq Bool (@PySem.W.sreFenced (@PySem.Program.main (@PySem.W.RowW.prog (@PySem.W.OpenRow.toRowW (@PySem.W.OpenLaw.row PySem.Challenge.rw_nz0498_01))))) Bool.true) := by kernel_rfl
theorem hs1 : (@Eq Bool (@Bool.or (@List.isEmpty (@Prod PySem.Str (@List PySem.Str)) (@PySem.moduleNames (@PySem.Module.body (@PySem.Program.main (@PySem.W.RowW.prog (@PySem.W.OpenRow.toRowW (@PySem.W.OpenLaw.row PySem.Challenge.rw_nz0498_01))))))) (@PySem.lookedIntoSs (@PySem.moduleNames (@PySem.Module.body (@PySem.Program.main (@PySem.W.RowW.prog (@PySem.W.OpenRow.toRowW (@PySem.W.OpenLaw.row PySem.Challenge.rw_nz0498_01)))))) (@PySem.Module.body (@PySem.Program.main (@PySem.W.RowW.prog (@PySem.W.OpenRow.toRowW (@PySem.W.OpenLaw.row PySem.Challenge.rw_nz0498_01))))))) Bool.true) := by kernel_rfl
theorem hs2 : (@Eq Bool (@PySem.W.namesResolve (@PySem.W.RowW.prog (@PySem.W.OpenRow.toRowW (@PySem.W.OpenLaw.row PySem.Challenge.rw_nz0498_01)))) Bool.true) := by kernel_rfl
theorem hs3 : (@Eq Bool (@List.all PySem.Str (@PySem.Program.boundNames (@PySem.W.RowW.prog (@PySem.W.OpenRow.toRowW (@PySem.W.OpenLaw.row PySem.Challenge.rw_nz0498_01)))) (fun (x0 : PySem.Str) => (@Bool.not (@List.contains PySem.Str (@instBEqOfDecidableEq PySem.Str PySem.instDecidableEqStr) PySem.W.worldNames x0)))) Bool.true) := by kernel_rfl
theorem hs4 : (@Eq Bool (@PySem.W.noRoadLSs (.mk (@Bool.not (@List.all PySem.Str (@PySem.importedModules (@PySem.Module.body (@PySem.Program.main (@PySem.W.RowW.prog (@PySem.W.OpenRow.toRowW (@PySem.W.OpenLaw.row PySem.Challenge.rw_nz0498_01)))))) (@List.contains PySem.Str (@instBEqOfDecidableEq PySem.Str PySem.instDecidableEqStr) PySem.W.cThrough))) none Bool.false none Bool.false Bool.false Bool.false Bool.false (@List.filter PySem.Str (@PySem.W.readsOut (@PySem.W.RowW.prog (@PySem.W.OpenRow.toRowW (@PySem.W.OpenLaw.row PySem.Challenge.rw_nz0498_01))) (@PySem.Module.body (@PySem.Program.main (@PySem.W.RowW.prog (@PySem.W.OpenRow.toRowW (@PySem.W.OpenLaw.row PySem.Challenge.rw_nz0498_01)))))) [(hq "vars"), (hq "dir"), (hq "locals")]) none) (@PySem.Module.body (@PySem.Program.main (@PySem.W.RowW.prog (@PySem.W.OpenRow.toRowW (@PySem.W.OpenLaw.row PySem.Challenge.rw_nz0498_01)))))) Bool.true) := by kernel_rfl
theorem hs5 : (@Eq Bool (@PySem.W.namesMeet (@PySem.W.RowW.prog (@PySem.W.OpenRow.toRowW (@PySem.W.OpenLaw.row PySem.Challenge.rw_nz0498_01))) (@PySem.Module.body (@PySem.Program.main (@PySem.W.RowW.prog (@PySem.W.OpenRow.toRowW (@PySem.W.OpenLaw.row PySem.Challenge.rw_nz0498_01))))) (fun (x0 : PySem.Scope) => (fun (x1 : PySem.Str) => (@PySem.W.attrL x1)))) Bool.true) := by kernel_rfl
theorem hs6 : (@Eq Bool (@List.isEmpty PySem.Str (@PySem.W.RowW.loose (@PySem.W.OpenRow.toRowW (@PySem.W.OpenLaw.row PySem.Challenge.rw_nz0498_01)))) Bool.true) := by kernel_rfl
theorem hs7 : (@Eq Bool (@List.isEmpty PySem.W.MakerRow (@PySem.W.RowW.makers (@PySem.W.OpenRow.toRowW (@PySem.W.OpenLaw.row PySem.Challenge.rw_nz0498_01)))) Bool.true) := by kernel_rfl
theorem hs8 : (@Eq Bool (@Bool.or (@List.isEmpty (@Prod PySem.Str (@List (@Prod PySem.Str PySem.W.WShape))) (@PySem.W.RowW.records (@PySem.W.OpenRow.toRowW (@PySem.W.OpenLaw.row PySem.Challenge.rw_nz0498_01)))) (@List.all (@Prod PySem.ExcName PySem.W.WTm) (@PySem.W.RowW.raises (@PySem.W.OpenRow.toRowW (@PySem.W.OpenLaw.row PySem.Challenge.rw_nz0498_01))) (fun (x0 : (@Prod PySem.ExcName PySem.W.WTm)) => (@Bool.and (@bne PySem.ExcName (@instBEqOfDecidableEq PySem.ExcName PySem.instDecidableEqExcName) (@Prod.fst PySem.ExcName PySem.W.WTm x0) (.builtin "AttributeError")) (@bne PySem.ExcName (@instBEqOfDecidableEq PySem.ExcName PySem.instDecidableEqExcName) (@Prod.fst PySem.ExcName PySem.W.WTm x0) (.builtin "TypeError")))))) Bool.true) := by kernel_rfl
theorem hs9 : (@Eq Bool (@List.all (@Prod PySem.ExcName PySem.W.WTm) (@PySem.W.RowW.raises (@PySem.W.OpenRow.toRowW (@PySem.W.OpenLaw.row PySem.Challenge.rw_nz0498_01))) (fun (x0 : (@Prod PySem.ExcName PySem.W.WTm)) => (@PySem.W.OpenRow.partSaid.match_1 (fun (x1 : PySem.ExcName) => Bool) (@Prod.fst PySem.ExcName PySem.W.WTm x0) (fun (x1 : String) => (@Bool.and (@Bool.not (@List.contains PySem.Str (@instBEqOfDecidableEq PySem.Str PySem.instDecidableEqStr) (@PySem.Program.boundNames (@PySem.W.RowW.prog (@PySem.W.OpenRow.toRowW (@PySem.W.OpenLaw.row PySem.Challenge.rw_nz0498_01)))) (@PySem.Str.ofString x1))) (@Bool.not (@List.contains String (@instBEqOfDecidableEq String instDecidableEqString) PySem.W.ofTheWorld x1)))) (fun (x1 : String) => Bool.true)))) Bool.true) := by kernel_rfl
theorem hs10 : (@Eq Bool (@Decidable.decide (@List.Nodup PySem.Str (@List.map (@Prod PySem.Str (@List (@Prod PySem.Str PySem.W.WShape))) PySem.Str (fun (x0 : (@Prod PySem.Str (@List (@Prod PySem.Str PySem.W.WShape)))) => (@Prod.fst PySem.Str (@List (@Prod PySem.Str PySem.W.WShape)) x0)) (@PySem.W.RowW.records (@PySem.W.OpenRow.toRowW (@PySem.W.OpenLaw.row PySem.Challenge.rw_nz0498_01))))) (@List.nodupDecidable PySem.Str PySem.instDecidableEqStr (@List.map (@Prod PySem.Str (@List (@Prod PySem.Str PySem.W.WShape))) PySem.Str (fun (x0 : (@Prod PySem.Str (@List (@Prod PySem.Str PySem.W.WShape)))) => (@Prod.fst PySem.Str (@List (@Prod PySem.Str PySem.W.WShape)) x0)) (@PySem.W.RowW.records (@PySem.W.OpenRow.toRowW (@PySem.W.OpenLaw.row PySem.Challenge.rw_nz0498_01)))))) Bool.true) := by kernel_rfl
theorem hs11 : (@Eq Bool (@List.all (@Prod PySem.Str (@List (@Prod PySem.Str PySem.W.WShape))) (@PySem.W.RowW.records (@PySem.W.OpenRow.toRowW (@PySem.W.OpenLaw.row PySem.Challenge.rw_nz0498_01))) (fun (x0 : (@Prod PySem.Str (@List (@Prod PySem.Str PySem.W.WShape)))) => (@Bool.and (@Bool.and (@Bool.and (@Bool.not (@PySem.Str.opensWith (@Prod.fst PySem.Str (@List (@Prod PySem.Str PySem.W.WShape)) x0) (hq "__"))) (@Bool.not (@PySem.W.builtinNamed (@Prod.fst PySem.Str (@List (@Prod PySem.Str PySem.W.WShape)) x0)))) (@List.contains PySem.Str (@instBEqOfDecidableEq PySem.Str PySem.instDecidableEqStr) (@PySem.Program.boundNames (@PySem.W.RowW.prog (@PySem.W.OpenRow.toRowW (@PySem.W.OpenLaw.row PySem.Challenge.rw_nz0498_01)))) (@Prod.fst PySem.Str (@List (@Prod PySem.Str PySem.W.WShape)) x0))) (@List.all (@Prod PySem.Str PySem.W.WShape) (@Prod.snd PySem.Str (@List (@Prod PySem.Str PySem.W.WShape)) x0) (fun (x1 : (@Prod PySem.Str PySem.W.WShape)) => (@Bool.not (@PySem.Str.opensWith (@Prod.fst PySem.Str PySem.W.WShape x1) (hq "__")))))))) Bool.true) := by kernel_rfl
theorem hs12 : (@Eq Bool (@PySem.W.RowW.solid (@PySem.W.OpenRow.toRowW (@PySem.W.OpenLaw.row PySem.Challenge.rw_nz0498_01))) Bool.true) := by kernel_rfl
theorem hs13 : (@Eq Bool (@PySem.W.WTm.litsOk (@PySem.W.RowW.pre (@PySem.W.OpenRow.toRowW (@PySem.W.OpenLaw.row PySem.Challenge.rw_nz0498_01)))) Bool.true) := by kernel_rfl
theorem hs14 : (@Eq Bool (@PySem.W.WTm.litsOk (@PySem.W.RowW.post (@PySem.W.OpenRow.toRowW (@PySem.W.OpenLaw.row PySem.Challenge.rw_nz0498_01)))) Bool.true) := by kernel_rfl
theorem hs15 : (@Eq Bool (@List.all (@Prod PySem.ExcName PySem.W.WTm) (@PySem.W.RowW.raises (@PySem.W.OpenRow.toRowW (@PySem.W.OpenLaw.row PySem.Challenge.rw_nz0498_01))) (fun (x0 : (@Prod PySem.ExcName PySem.W.WTm)) => (@PySem.W.WTm.litsOk (@Prod.snd PySem.ExcName PySem.W.WTm x0)))) Bool.true) := by kernel_rfl
theorem hs16 : (@Eq Bool (@List.all Nat (@PySem.W.RowW.mutates (@PySem.W.OpenRow.toRowW (@PySem.W.OpenLaw.row PySem.Challenge.rw_nz0498_01))) (fun (x0 : Nat) => (@PySem.W.OpenRow.partSaid.match_3 (fun (x1 : (@Option PySem.W.WShape)) => Bool) (@GetElem?.getElem? (@List PySem.W.WShape) Nat PySem.W.WShape (fun (x1 : (@List PySem.W.WShape)) => (fun (x2 : Nat) => (@LT.lt Nat instLTNat x2 (@List.length PySem.W.WShape x1)))) (@List.instGetElem?NatLtLength PySem.W.WShape) (@PySem.W.RowW.args (@PySem.W.OpenRow.toRowW (@PySem.W.OpenLaw.row PySem.Challenge.rw_nz0498_01))) x0) (fun (x1 : PySem.W.WShape) => (@Bool.not (@List.any PySem.W.WShape (@PySem.W.WShape.arms x1) PySem.W.WShape.isObj))) (fun (x1 : Unit) => Bool.false)))) Bool.true) := by kernel_rfl
theorem hs17 : (@Eq Bool (@List.all Nat (@PySem.W.RowW.within (@PySem.W.OpenRow.toRowW (@PySem.W.OpenLaw.row PySem.Challenge.rw_nz0498_01))) (fun (x0 : Nat) => (@Decidable.decide (@LT.lt Nat instLTNat x0 (@List.length PySem.W.WShape (@PySem.W.RowW.args (@PySem.W.OpenRow.toRowW (@PySem.W.OpenLaw.row PySem.Challenge.rw_nz0498_01))))) (@Nat.decLt x0 (@List.length PySem.W.WShape (@PySem.W.RowW.args (@PySem.W.OpenRow.toRowW (@PySem.W.OpenLaw.row PySem.Challenge.rw_nz0498_01)))))))) Bool.true) := by kernel_rfl
theorem hs18 : (@Eq Bool (@Option.all Nat (fun (x0 : Nat) => (@Decidable.decide (@LT.lt Nat instLTNat x0 (@List.length PySem.W.WShape (@PySem.W.RowW.args (@PySem.W.OpenRow.toRowW (@PySem.W.OpenLaw.row PySem.Challenge.rw_nz0498_01))))) (@Nat.decLt x0 (@List.length PySem.W.WShape (@PySem.W.RowW.args (@PySem.W.OpenRow.toRowW (@PySem.W.OpenLaw.row PySem.Challenge.rw_nz0498_01))))))) (@PySem.W.RowW.same (@PySem.W.OpenRow.toRowW (@PySem.W.OpenLaw.row PySem.Challenge.rw_nz0498_01)))) Bool.true) := by kernel_rfl
theorem hs19 : (@Eq Bool (@List.contains PySem.Str (@instBEqOfDecidableEq PySem.Str PySem.instDecidableEqStr) (@PySem.Program.boundNames (@PySem.W.RowW.prog (@PySem.W.OpenRow.toRowW (@PySem.W.OpenLaw.row PySem.Challenge.rw_nz0498_01)))) (@PySem.W.RowW.name (@PySem.W.OpenRow.toRowW (@PySem.W.OpenLaw.row PySem.Challenge.rw_nz0498_01)))) Bool.true) := by kernel_rfl
theorem hs20 : (@Eq Bool (@Bool.not (@List.contains PySem.Str (@instBEqOfDecidableEq PySem.Str PySem.instDecidableEqStr) PySem.startupNames (@PySem.W.RowW.name (@PySem.W.OpenRow.toRowW (@PySem.W.OpenLaw.row PySem.Challenge.rw_nz0498_01))))) Bool.true) := by kernel_rfl
theorem hs21 : (@Eq Bool (@Decidable.decide (@LE.le Nat instLENat (@PySem.W.OpenLaw.foot PySem.Challenge.rw_nz0498_01) (@List.length PySem.Stmt (@PySem.W.behindTheImports (@PySem.W.OpenLaw.prog PySem.Challenge.rw_nz0498_01)))) (@Nat.decLe (@PySem.W.OpenLaw.foot PySem.Challenge.rw_nz0498_01) (@List.length PySem.Stmt (@PySem.W.behindTheImports (@PySem.W.OpenLaw.prog PySem.Challenge.rw_nz0498_01))))) Bool.true) := by kernel_rfl
theorem hs22 : (@Eq Bool (@List.all PySem.Stmt (@PySem.W.OpenLaw.footing PySem.Challenge.rw_nz0498_01) PySem.W.footLine) Bool.true) := by kernel_rfl
theorem hs23 : (@Eq Bool (@PySem.W.noClassBlock (@PySem.W.OpenLaw.prog PySem.Challenge.rw_nz0498_01) (@PySem.W.OpenLaw.footing PySem.Challenge.rw_nz0498_01)) Bool.true) := by kernel_rfl
theorem hs24 : (@Eq Bool (@Option.all Nat (fun (x0 : Nat) => (@Decidable.decide (@LE.le Nat instLENat 63 x0) (@Nat.decLe 63 x0))) (@PySem.W.OpenLaw.most PySem.Challenge.rw_nz0498_01)) Bool.true) := by kernel_rfl
theorem hs25 : (@Eq Bool (@Option.all Nat (fun (x0 : Nat) => (@Decidable.decide (@LE.le Nat instLENat (@HPow.hPow Nat Nat Nat (@instHPow Nat Nat (@instPowNat Nat instNatPowNat)) 2 63) x0) (@Nat.decLe (@HPow.hPow Nat Nat Nat (@instHPow Nat Nat (@instPowNat Nat instNatPowNat)) 2 63) x0))) (@PySem.W.OpenLaw.bound PySem.Challenge.rw_nz0498_01)) Bool.true) := by kernel_rfl
theorem hs26 : (@Eq Bool (@PySem.W.noRoadLSs (.mk Bool.true (some (@PySem.W.OpenLaw.bound' PySem.Challenge.rw_nz0498_01)) (@PySem.W.OpenLaw.writes PySem.Challenge.rw_nz0498_01) none Bool.false Bool.false Bool.false Bool.false [] (@PySem.W.OpenLaw.may PySem.Challenge.rw_nz0498_01)) (@PySem.W.OpenLaw.footing PySem.Challenge.rw_nz0498_01)) Bool.true) := by kernel_rfl
theorem hs27 : (@Eq Bool (@PySem.W.defStands (@PySem.W.OpenLaw.about PySem.Challenge.rw_nz0498_01) (@PySem.W.OpenLaw.above PySem.Challenge.rw_nz0498_01)) Bool.true) := by kernel_rfl
theorem hs28 : (@Eq Bool (@PySem.W.OpenLaw.namesIt PySem.Challenge.rw_nz0498_01) Bool.true) := by kernel_rfl
theorem hs29 : (@Eq Bool (@List.all PySem.Str [(hq "type"), (hq "isinstance"), (hq "issubclass"), (hq "getattr"), (hq "hasattr")] (fun (x0 : PySem.Str) => (@bne (@List PySem.Str) (@List.instBEq PySem.Str (@instBEqOfDecidableEq PySem.Str PySem.instDecidableEqStr)) (@PySem.W.OpenLaw.about PySem.Challenge.rw_nz0498_01) [x0]))) Bool.true) := by kernel_rfl
theorem hs30 : (@Eq Bool (@List.all PySem.Str (@PySem.W.OpenLaw.bound' PySem.Challenge.rw_nz0498_01) (fun (x0 : PySem.Str) => (@Bool.or (@Bool.or (@Bool.not (@PySem.W.builtinNamed x0)) (@BEq.beq (@List PySem.Str) (@List.instBEq PySem.Str (@instBEqOfDecidableEq PySem.Str PySem.instDecidableEqStr)) (@PySem.W.OpenLaw.about PySem.Challenge.rw_nz0498_01) [x0])) (@Bool.not (@PySem.W.OpenLaw.reads PySem.Challenge.rw_nz0498_01 x0))))) Bool.true) := by kernel_rfl
theorem hs31 : (@Eq Bool (@Bool.or (@Bool.not (@PySem.W.OpenLaw.writes PySem.Challenge.rw_nz0498_01)) (@List.all PySem.Str (@List.flatMap PySem.Stmt PySem.Str PySem.importedNames (@PySem.Module.body (@PySem.Program.main (@PySem.W.OpenLaw.prog PySem.Challenge.rw_nz0498_01)))) (fun (x0 : PySem.Str) => (@Bool.not (@PySem.W.OpenLaw.reads PySem.Challenge.rw_nz0498_01 x0))))) Bool.true) := by kernel_rfl
theorem hs32 : (@Eq Bool (@List.all PySem.Str (@List.flatMap PySem.Stmt PySem.Str PySem.importedNames (@PySem.Module.body (@PySem.Program.main (@PySem.W.OpenLaw.prog PySem.Challenge.rw_nz0498_01)))) (fun (x0 : PySem.Str) => (@Bool.or (@Bool.not (@PySem.W.OpenLaw.reads PySem.Challenge.rw_nz0498_01 x0)) (@List.all (@Prod PySem.Str PySem.Str) (@PySem.drawsOf x0 (@PySem.Module.body (@PySem.Program.main (@PySem.W.OpenLaw.prog PySem.Challenge.rw_nz0498_01)))) (fun (x1 : (@Prod PySem.Str PySem.Str)) => (@Bool.and (@bne PySem.Str (@instBEqOfDecidableEq PySem.Str PySem.instDecidableEqStr) (@Prod.snd PySem.Str PySem.Str x1) (hq "attrgetter")) (@bne PySem.Str (@instBEqOfDecidableEq PySem.Str PySem.instDecidableEqStr) (@Prod.snd PySem.Str PySem.Str x1) (hq "methodcaller")))))))) Bool.true) := by kernel_rfl
theorem hs33 : (@Eq Bool (@PySem.W.namesMeet (@PySem.W.OpenLaw.prog PySem.Challenge.rw_nz0498_01) (@PySem.W.OpenLaw.footing PySem.Challenge.rw_nz0498_01) (fun (x0 : PySem.Scope) => (fun (x1 : PySem.Str) => (@Bool.and (@Bool.or (@Bool.not (@List.contains PySem.Str (@instBEqOfDecidableEq PySem.Str PySem.instDecidableEqStr) [(hq "type"), (hq "isinstance"), (hq "issubclass"), (hq "getattr"), (hq "hasattr")] x1)) (@BEq.beq (@Option PySem.NameKind) (@Option.instBEq PySem.NameKind (@instBEqOfDecidableEq PySem.NameKind PySem.instDecidableEqNameKind)) (@List.lookup PySem.Str PySem.NameKind (@instBEqOfDecidableEq PySem.Str PySem.instDecidableEqStr) x1 (@PySem.Scope.names x0)) (some PySem.NameKind.globalImplicit))) (@Bool.or (@Bool.or (@bne (@Option PySem.Str) (@Option.instBEq PySem.Str (@instBEqOfDecidableEq PySem.Str PySem.instDecidableEqStr)) (@PySem.W.OpenLaw.may PySem.Challenge.rw_nz0498_01) (some x1)) (@BEq.beq PySem.ScopeKind (@instBEqOfDecidableEq PySem.ScopeKind PySem.instDecidableEqScopeKind) (@PySem.Scope.kind x0) PySem.ScopeKind.module)) (@BEq.beq (@Option PySem.NameKind) (@Option.instBEq PySem.NameKind (@instBEqOfDecidableEq PySem.NameKind PySem.instDecidableEqNameKind)) (@List.lookup PySem.Str PySem.NameKind (@instBEqOfDecidableEq PySem.Str PySem.instDecidableEqStr) x1 (@PySem.Scope.names x0)) (some PySem.NameKind.globalImplicit))))))) Bool.true) := by kernel_rfl
theorem hs34 : (@Eq Bool (@List.contains PySem.Str (@instBEqOfDecidableEq PySem.Str PySem.instDecidableEqStr) (@PySem.W.OpenLaw.own PySem.Challenge.rw_nz0498_01) (@PySem.W.OpenLaw.name PySem.Challenge.rw_nz0498_01)) Bool.true) := by kernel_rfl
theorem hs35 : (@Eq Bool (@BEq.beq Nat (@instBEqOfDecidableEq Nat instDecidableEqNat) (@List.length PySem.Str (@List.eraseDups PySem.Str (@instBEqOfDecidableEq PySem.Str PySem.instDecidableEqStr) (@PySem.W.OpenLaw.own PySem.Challenge.rw_nz0498_01))) (@List.length PySem.Str (@PySem.W.OpenLaw.own PySem.Challenge.rw_nz0498_01))) Bool.true) := by kernel_rfl
theorem hs36 : (@Eq Bool (@List.all PySem.Str (@PySem.W.OpenLaw.own PySem.Challenge.rw_nz0498_01) (fun (x0 : PySem.Str) => (@Bool.not (@PySem.W.builtinNamed x0)))) Bool.true) := by kernel_rfl
theorem hs37 : (@Eq Bool (@PySem.W.namesMeet (@PySem.W.OpenLaw.prog PySem.Challenge.rw_nz0498_01) (@PySem.W.OpenLaw.above PySem.Challenge.rw_nz0498_01) (fun (x0 : PySem.Scope) => (fun (x1 : PySem.Str) => (@Bool.not (@List.contains PySem.Str (@instBEqOfDecidableEq PySem.Str PySem.instDecidableEqStr) (@PySem.W.OpenLaw.own PySem.Challenge.rw_nz0498_01) x1))))) Bool.true) := by kernel_rfl
theorem hs38 : (@Eq Bool (@PySem.W.namesMeet (@PySem.W.OpenLaw.prog PySem.Challenge.rw_nz0498_01) (@PySem.W.OpenLaw.footing PySem.Challenge.rw_nz0498_01) (fun (x0 : PySem.Scope) => (fun (x1 : PySem.Str) => (@Bool.or (@BEq.beq PySem.ScopeKind (@instBEqOfDecidableEq PySem.ScopeKind PySem.instDecidableEqScopeKind) (@PySem.Scope.kind x0) PySem.ScopeKind.module) (@bne (@Option PySem.NameKind) (@Option.instBEq PySem.NameKind (@instBEqOfDecidableEq PySem.NameKind PySem.instDecidableEqNameKind)) (@List.lookup PySem.Str PySem.NameKind (@instBEqOfDecidableEq PySem.Str PySem.instDecidableEqStr) x1 (@PySem.Scope.names x0)) (some PySem.NameKind.globalExplicit)))))) Bool.true) := by kernel_rfl
theorem hsaid : OpenLaw.wellSaid PySem.Challenge.rw_nz0498_01 = true := by
  unfold OpenLaw.wellSaid
  repeat' (first | with_reducible refine look_both ?_ ?_ | (unfold OpenRow.wellSaid; with_reducible refine look_both ?_ ?_) | (unfold OpenRow.partSaid; with_reducible refine look_both ?_ ?_) | (unfold looksOpen; with_reducible refine look_both ?_ ?_))
  exact hs0
  exact hs1
  exact hs2
  exact hs3
  exact hs4
  exact hs5
  exact hs6
  exact hs7
  exact hs8
  exact hs9
  exact hs10
  exact hs11
  exact hs12
  exact hs13
  exact hs14
  exact hs15
  exact hs16
  exact hs17
  exact hs18
  exact hs19
  exact hs20
  exact hs21
  exact hs22
  exact hs23
  exact hs24
  exact hs25
  exact hs26
  exact hs27
  exact hs28
  exact hs29
  exact hs30
  exact hs31
  exact hs32
  exact hs33
  exact hs34
  exact hs35
  exact hs36
  exact hs37
  exact hs38
def hd.view_39 : Program := view hPG [0, 2, 3, 4, 5, 7, 8, 10, 11, 12, 13, 14, 15, 16, 17, 18, 19, 20, 21, 23, 24, 25, 26, 27, 28, 29, 30, 31, 32, 33, 34, 36, 37, 38, 39, 40, 41, 43, 44, 45, 46, 47, 48, 49, 50, 51, 52, 54, 55, 56, 57, 58, 59, 60, 61, 62, 63, 64, 65, 66, 67, 68, 69, 70, 71, 73, 74, 75, 76, 77, 78, 79, 80, 81, 82, 83, 84, 85, 86, 87, 88, 89]
noncomputable abbrev hms : List Str := importedModules (RowW.prog (OpenRow.toRowW (OpenLaw.row PySem.Challenge.rw_nz0498_01))).main.body
noncomputable abbrev hlo : List Str := [PySem.Str.ofString "number_text"]
noncomputable abbrev hsh (w : World) (os : OsState) : Shared := ⟨hheap694 w.params, ⟨[]⟩, .mk 0 0 0 0, 1077, os⟩
noncomputable abbrev hxt (s : Shared) : Bool := xlAt hd.view_39 [] s && recOk (RowW.records (OpenRow.toRowW (OpenLaw.row PySem.Challenge.rw_nz0498_01))) s
noncomputable def hlw : List Str := [PySem.Str.ofString "number_text", PySem.Str.ofString "Vector", PySem.Str.ofString "Call", PySem.Str.ofString "Closure", PySem.Str.ofString "Environment", PySem.Str.ofString "NAN", PySem.Str.ofString "INF", PySem.Str.ofString "ZERO"]
theorem lw_eq : looseW hd.view_39 hlo = hlw := by kernel_rfl
theorem lk1 (w : World) : staticsOk hms (boot_heap w.params) (hheap694 w.params) = true := by kernel_rfl
theorem lk2 (w : World) : namesBound (RowW.prog (OpenRow.toRowW (OpenLaw.row PySem.Challenge.rw_nz0498_01))) (hheap694 w.params) = true := by kernel_rfl
theorem lk3 (w : World) (os : OsState) : (gensDone (hsh w os)) = true := by kernel_rfl
theorem lk4 (w : World) : laidKept (boot_heap w.params) (hheap694 w.params) = true := by kernel_rfl
theorem se1 (w : World) (os : OsState) : seen ((recsOf hd.view_39).map (·.name)) (ownsOf hd.view_39) [] { hsh w os with gens := #[] } = expectedOf hd.view_39 := by kernel_rfl
theorem se2 (w : World) (os : OsState) : (hsh w os).heap.bltView = bltViewBooted := by kernel_rfl
theorem se3' (w : World) : (hheap694 w.params).keysOk hlw ((recsOf hd.view_39).map (·.name)) ((litsOf hd.view_39).map (·.1)) ((clssOf hd.view_39 hlw).map (·.name)) = true := by kernel_rfl
theorem se3 (w : World) : (hheap694 w.params).keysOk (looseW hd.view_39 hlo) ((recsOf hd.view_39).map (·.name)) ((litsOf hd.view_39).map (·.1)) ((clssOf hd.view_39 (looseW hd.view_39 hlo)).map (·.name)) = true := lw_eq ▸ se3' w
theorem se4 (w : World) : (hheap694 w.params).accountedOkI hms = true := by kernel_rfl
theorem se5 (w : World) : (hheap694 w.params).isNs mainGlobals = true := by kernel_rfl
theorem se6 (w : World) : (hheap694 w.params).isNs builtinsNs = true := by kernel_rfl
theorem se7 (w : World) : tablesOk hd.view_39 (hheap694 w.params) = true := by kernel_rfl
theorem se8 (w : World) (os : OsState) : hxt (hsh w os) = true := by kernel_rfl
theorem se9 (w : World) (os : OsState) : tabsOk hd.view_39 (hsh w os) = true := by kernel_rfl
theorem se10 (w : World) (os : OsState) : pinSeenD hd.view_39 (drecsOf hd.view_39) (hsh w os) = pinGoodD (drecsOf hd.view_39) := by kernel_rfl
theorem se11' (w : World) (os : OsState) : plainSeenE hd.view_39 hlw (hsh w os) = plainGoodE hd.view_39 hlw := by kernel_rfl
theorem se11 (w : World) (os : OsState) : plainSeenE hd.view_39 (looseW hd.view_39 hlo) (hsh w os) = plainGoodE hd.view_39 (looseW hd.view_39 hlo) := lw_eq ▸ se11' w os
theorem se12 (w : World) (os : OsState) : plainSeenD hd.view_39 hlo (hsh w os) = plainGoodD hd.view_39 hlo := by kernel_rfl
theorem se13 (w : World) (os : OsState) : wideSeen hd.view_39 (hsh w os) = wideGood hd.view_39 := by kernel_rfl
theorem se14 (w : World) (os : OsState) : clsSeenW hd.view_39 hlo (hsh w os) = clsGoodW hd.view_39 hlo := by kernel_rfl
theorem looks_of {p : Program} {mods : List Str} {h₀ h₁ : Heap} {s : Shared} (e : s.heap = h₁) (a : staticsOk mods h₀ h₁ = true) (b : namesBound p h₁ = true) (c : gensDone s = true) (d : laidKept h₀ h₁ = true) :
    (staticsOk mods h₀ h₁ && namesBound p h₁ && gensDone s && laidKept h₀ h₁) = true := by rw [a, b, c, d]; rfl
theorem seen_of {q : Program} {loose mods : List Str} {Xt : Shared → Bool} {s : Shared} (hg : s.gens = ⟨[]⟩)
    (h1 : seen ((recsOf q).map (·.name)) (ownsOf q) [] { s with gens := #[] } = expectedOf q) (h2 : s.heap.bltView = bltViewBooted)
    (h3 : s.heap.keysOk (looseW q loose) ((recsOf q).map (·.name)) ((litsOf q).map (·.1)) ((clssOf q (looseW q loose)).map (·.name)) = true)
    (h4 : s.heap.accountedOkI mods = true) (h5 : s.heap.isNs mainGlobals = true) (h6 : s.heap.isNs builtinsNs = true) (h7 : tablesOk q s.heap = true) (h8 : Xt s = true)
    (h9 : tabsOk q s = true) (h10 : pinSeenD q (drecsOf q) s = pinGoodD (drecsOf q)) (h11 : plainSeenE q (looseW q loose) s = plainGoodE q (looseW q loose))
    (h12 : plainSeenD q loose s = plainGoodD q loose) (h13 : wideSeen q s = wideGood q) (h14 : clsSeenW q loose s = clsGoodW q loose) :
    openSeen q loose mods Xt true s = openGood q loose := by
  unfold openSeen openGood
  rw [h1, h2, h3, h4, h5, h6, h7, h8, h9, h10, h11, h12, h13, h14, hg]; rfl
theorem lks (w : World) (os : OsState) : (staticsOk hms (boot_heap w.params) (hheap694 w.params) && namesBound (RowW.prog (OpenRow.toRowW (OpenLaw.row PySem.Challenge.rw_nz0498_01))) (hheap694 w.params) && gensDone (hsh w os) && laidKept (boot_heap w.params) (hheap694 w.params)) = true :=
  looks_of rfl (lk1 w) (lk2 w) (lk3 w os) (lk4 w)
theorem ses (w : World) (os : OsState) : openSeen hd.view_39 hlo hms hxt true (hsh w os) = openGood hd.view_39 hlo :=
  seen_of rfl (se1 w os) (se2 w os) (se3 w) (se4 w) (se5 w) (se6 w) (se7 w) (se8 w os) (se9 w os) (se10 w os) (se11 w os) (se12 w os) (se13 w os) (se14 w os)
theorem fun_of {β γ : Type} {A : OsState → Bool} {B : OsState → β} {b : β} {C : OsState → γ} {c : γ} (ha : ∀ os, A os = true) (hb : ∀ os, B os = b) (hc : ∀ os, C os = c) :
    (fun os => (A os, B os, C os)) = fun _ => (true, b, c) := funext fun os => by rw [ha os, hb os, hc os]
local macro_rules | `(tactic| o_law) => `(tactic| (refine holds_law Mine.hsaid fun said => ?_))
local macro_rules | `(tactic| o_head $H:term) => do
  let hl := Lean.mkIdent `hl
  let hw := Lean.mkIdent `hw
  let hc := Lean.mkIdent `hc
  `(tactic| (refine holds_open (q := Mine.hd.view_39) (loose := [PySem.Str.ofString "number_text"]) (Xt := fun s => xlAt Mine.hd.view_39 [] s && recOk (RowW.records (OpenRow.toRowW (OpenLaw.row PySem.Challenge.rw_nz0498_01))) s) (XP := XL Mine.hd.view_39 []) (Yf := Hook.obs $H) (Ya := Hook.val $H) (YP := Hook.says $H) (N := 8288) ?$hl (Hook.of $H) (Hook.keeps $H) (fun s e => xl_of s (Bool.and_eq_true_iff.mp e).1) XL.keeps (by rfl) (by rfl) (by rfl) (fun s e => recFacts_of (Bool.and_eq_true_iff.mp e).2) (by rfl) (by first | assumption | decide +kernel) (by decide +kernel) ⟨rfl, rfl, rfl, rfl, rfl, by decide +kernel⟩ ?$hw ?$hc; (case $hl:ident => (refine LeftO.of_pieces (H₀ := boot_heap) (H₁ := Mine.hheap694) (gs₀ := ⟨[]⟩) (gs₁ := ⟨[]⟩) (d₀ := boot_drawn) (d₁ := .mk 0 0 0 0) (k₀ := boot_toks) (k₁ := 1077) (m₀ := 11) (ann := some (.ref 6)) (@boot_open Mine.hPG 8288 Mine.hproof42 (by decide +kernel) Mine.hproof43) Mine.hproof697 Mine.hproof696 (by decide +kernel) ?_; exact fun w => Mine.fun_of (Mine.lks w) (Mine.ses w) fun os => by kernel_rfl))))
set_option maxHeartbeats 0 in
open_top hd for PySem.Challenge.rw_nz0498_01
theorem nm_ok1 : PySem.W.namesOk hd.view_39 hlw (namesW hd.view_39 hlo) = true := by kernel_rfl
theorem nm_ok : PySem.W.namesOk hd.view_39 (looseW hd.view_39 hlo) (namesW hd.view_39 hlo) = true := lw_eq ▸ nm_ok1
theorem im_none : PyProof.Rows.importsNone hd.view_39 = true := by kernel_rfl
noncomputable def Above (b : Addr) (l : List (Addr × Obj)) : Prop := ∀ p ∈ l, @LT.lt Nat _ b p.1
theorem Above.nil {b : Addr} : Above b [] := fun _ h => nomatch h
theorem Above.cons {b : Addr} {p : Addr × Obj} {l : List (Addr × Obj)} (h : @LT.lt Nat _ b p.1) (r : Above b l) : Above b (p :: l) := fun q hq => by
  rcases List.mem_cons.mp hq with rfl | hq
  · exact h
  · exact r q hq
theorem Above.app {b : Addr} {l l' : List (Addr × Obj)} (h : Above b l) (r : Above b l') : Above b (l ++ l') := fun q hq => (List.mem_append.mp hq).elim (h q) (r q)
theorem Above.ne {b : Addr} {l : List (Addr × Obj)} (h : Above b l) : ∀ p ∈ l, p.1 ≠ b := fun p hp => Nat.ne_of_gt (h p hp)

structure StD where
  its : List Value
  xs : List Int
  sd : Int
  tk : Tok
  n : Nat
  n' : Nat
noncomputable def StD.led (S : StD) (st rw : Addr) : List (Addr × Obj) := [(st, listOf #[.ref rw, .int S.sd S.tk] S.n), (rw, listOf S.its.toArray S.n')]
structure StD.Ok (S : StD) (st rw : Addr) : Prop where
  hInts : IntsAre S.its S.xs
  hLen : S.its.length ≤ 5000
  hRow : ∀ x ∈ S.xs, 0 ≤ x ∧ x < 660
  hLo : 0 ≤ S.sd
  hHi : S.sd < 1013
  hLt : @LT.lt Nat _ rw st
inductive Has (st rw : Addr) (S : StD) (rest : List (Addr × Obj)) : List (Addr × Obj) → (StD → List (Addr × Obj)) → Prop
  | base : Has st rw S rest (S.led st rw ++ rest) (fun S' => S'.led st rw ++ rest)
  | cons {p : Addr × Obj} {l : List (Addr × Obj)} {f : StD → List (Addr × Obj)} : @LT.lt Nat _ st p.1 → Has st rw S rest l f → Has st rw S rest (p :: l) (fun S' => p :: f S')
  | app {vl l : List (Addr × Obj)} {f : StD → List (Addr × Obj)} : Above st vl → Has st rw S rest l f → Has st rw S rest (vl ++ l) (fun S' => vl ++ f S')
theorem Has.spec {st rw : Addr} {S : StD} {rest l : List (Addr × Obj)} {f : StD → List (Addr × Obj)} (H : Has st rw S rest l f) :
    ∃ own, Above st own ∧ (∀ p, p ∈ l ↔ p ∈ S.led st rw ++ (own ++ rest)) ∧ ∀ S' p, p ∈ f S' ↔ p ∈ StD.led S' st rw ++ (own ++ rest) := by
  induction H with
  | base => exact ⟨[], Above.nil, fun p => by rw [List.nil_append], fun S' p => by rw [List.nil_append]⟩
  | cons h _ ih =>
    obtain ⟨own, h1, h2, h3⟩ := ih
    refine ⟨_ :: own, Above.cons h h1, fun p => ?_, fun S' p => ?_⟩
    · rw [List.mem_cons, h2]; simp only [List.mem_append, List.mem_cons, List.cons_append]; grind
    · rw [List.mem_cons, h3]; simp only [List.mem_append, List.mem_cons, List.cons_append]; grind
  | app h _ ih =>
    obtain ⟨own, h1, h2, h3⟩ := ih
    refine ⟨_ ++ own, Above.app h h1, fun p => ?_, fun S' p => ?_⟩
    · rw [List.mem_append, h2]; simp only [List.mem_append]; grind
    · rw [List.mem_append, h3]; simp only [List.mem_append]; grind
theorem Has.next {st rw : Addr} {S : StD} {rest l : List (Addr × Obj)} {f : StD → List (Addr × Obj)} (H : Has st rw S rest l f) (S' : StD) : Has st rw S' rest (f S') f := by
  induction H with
  | base => exact Has.base
  | cons h _ ih => exact Has.cons h ih
  | app h _ ih => exact Has.app h ih

noncomputable def lv (ns : List Str) (vs : List (Option Value)) : Str → Option Value := fun y => match ns.idxOf? y with
  | some i => (vs[i]?).join
  | none => none
theorem idx_at {x : Str} : ∀ {ns : List Str} {i : Nat}, ns.idxOf? x = some i → ns[i]? = some x
  | [], _, h => by cases h
  | y :: r, i, h => by
    rw [List.idxOf?_cons] at h
    split at h
    · rename_i e; cases h; rw [beq_iff_eq.mp e]; rfl
    · cases q : r.idxOf? x with
      | none => rw [q] at h; cases h
      | some j => rw [q] at h; cases h; rw [List.getElem?_cons_succ]; exact idx_at q
theorem lv_get {ns : List Str} {vs : List (Option Value)} {x : Str} {i : Nat} {v : Value} (hi : ns.idxOf? x = some i) (hv : vs[i]? = some (some v)) : lv ns vs x = some v := by
  unfold lv; rw [hi]; dsimp only; rw [hv]; rfl
theorem lv_set {ns : List Str} {vs : List (Option Value)} {x : Str} {i : Nat} (hi : ns.idxOf? x = some i) (hl : i < vs.length) (v : Value) : (fun y => if y = x then some v else lv ns vs y) = lv ns (vs.set i (some v)) := by
  funext y
  unfold lv
  by_cases h : y = x
  · subst h
    rw [if_pos rfl, hi]
    dsimp only
    rw [List.getElem?_set_self hl]; rfl
  · rw [if_neg h]
    cases q : ns.idxOf? y with
    | none => rfl
    | some j =>
      dsimp only
      have : i ≠ j := by
        rintro rfl
        have a := idx_at hi
        rw [idx_at q] at a
        exact h (Option.some.inj a)
      rw [List.getElem?_set_ne this]
theorem lv_nil (ns : List Str) (n : Nat) : (fun y => ([] : List (Str × Value)).lookup y) = lv ns (List.replicate n none) := by
  funext y
  unfold lv
  cases ns.idxOf? y with
  | none => rfl
  | some j =>
    dsimp only
    by_cases h : j < n
    · rw [List.getElem?_replicate, if_pos h]; rfl
    · rw [List.getElem?_replicate, if_neg h]; rfl
theorem lv_ent {ns : List Str} {vs : List (Option Value)} {x : Str} {i : Nat} {v : Value} {l : List (Str × Value)} (h : (fun y => l.lookup y) = lv ns vs) (hi : ns.idxOf? x = some i) (hl : i < vs.length) :
    (fun y => ((x, v) :: l).lookup y) = lv ns (vs.set i (some v)) := by
  rw [← lv_set hi hl, ← h]
  funext y
  rw [List.lookup_cons]
  by_cases q : y = x
  · subst q; simp
  · rw [if_neg q, show (y == x) = false from by simp [q]]

theorem allLt_led {d st rw : Addr} {S : StD} : AllLt d (S.led st rw) = (@LT.lt Nat _ st d ∧ @LT.lt Nat _ rw d) := by unfold StD.led; simp only [AllLt, and_true]
theorem allLt_app {d : Addr} : ∀ {l l' : List (Addr × Obj)}, AllLt d (l ++ l') = (AllLt d l ∧ AllLt d l')
  | [], _ => by simp only [List.nil_append, AllLt, true_and]
  | p :: l, l' => by simp only [List.cons_append, AllLt, allLt_app, and_assoc]

theorem allLt_mem {d : Addr} : ∀ {l : List (Addr × Obj)}, AllLt d l → ∀ p ∈ l, @LT.lt Nat _ p.1 d
  | [], _, _, h => nomatch h
  | q :: l, h, p, hp => by
    rcases List.mem_cons.mp hp with rfl | hp
    · exact h.1
    · exact allLt_mem h.2 p hp
theorem Has.lt {st rw : Addr} {S : StD} {rest l : List (Addr × Obj)} {f : StD → List (Addr × Obj)} {d : Addr} (H : Has st rw S rest l f) (h : AllLt d l) : @LT.lt Nat _ st d := by
  obtain ⟨own, _, h2, _⟩ := H.spec
  exact allLt_mem h (st, _) ((h2 _).mpr (List.mem_append_left _ (by unfold StD.led; exact .head _)))
structure Loc (cs : Scope) (ns : List Str) (x : Str) (i : Nat) : Prop where
  hK : (cs.kind == ScopeKind.function) = true
  hN : (cs.names.lookup x == some NameKind.local) = true
  hD : (x == ("__debug__" : Str)) = false
  hI : ns.idxOf? x = some i
structure Glo (cs : Scope) (x : Str) : Prop where
  hK : (cs.kind == ScopeKind.function) = true
  hN : (cs.names.lookup x == some NameKind.globalImplicit) = true
  hD : (x == ("__debug__" : Str)) = false
theorem Loc.kind {cs : Scope} {ns : List Str} {x : Str} {i : Nat} (l : Loc cs ns x i) : cs.kind = .function := by have := l.hK; revert this; cases cs.kind <;> simp <;> decide
theorem Loc.name {cs : Scope} {ns : List Str} {x : Str} {i : Nat} (l : Loc cs ns x i) : cs.names.lookup x = some .local := by simpa using l.hN
theorem Glo.kind {cs : Scope} {x : Str} (l : Glo cs x) : cs.kind = .function := by have := l.hK; revert this; cases cs.kind <;> simp <;> decide
theorem Glo.name {cs : Scope} {x : Str} (l : Glo cs x) : cs.names.lookup x = some .globalImplicit := by simpa using l.hN

structure GF (P : Params) (x : Str) (f : Addr) : Prop where
  hG : nsIn (hd.heap_1 P) mainGlobals x = some (some (.ref f))
  hC : keepIn (hd.heap_1 P) (.ref f) = true
structure GB (P : Params) (x : Str) (v : Value) : Prop where
  hG : nsIn (hd.heap_1 P) mainGlobals x = some none
  hB : bootBuiltins x = some v
  hN : x ≠ "__name__"
structure CO (P : Params) (C : Addr) : Prop where
  hP : ∀ x, plainGet (hd.heap_1 P) C x = true
  hH : hasDictIn (hd.heap_1 P) C = true
  hS : findIn (hd.heap_1 P) (.ref C) "__setattr__" = some (some (.builtin "object.__setattr__"))
  hO : plainOver (hd.heap_1 P) C = true
structure AO (P : Params) (C : Addr) (x : Str) : Prop where
  co : CO P C
  hF : findIn (hd.heap_1 P) (.ref C) x = some none

section
variable {w : World} {M : Model} {A : Around} {E : Value → Shared → Prop} {h₀ h : Heap} {L a : Addr} {g : Array GenState} {d : Drawn} {t : Nat} {os : OsState} {m mg mb : Str → Option Value} {news : List (Addr × Obj)} {cn : Str} {cs : Scope} {ccd : Value} {es : List DictEntry}
  {p : Program} {loose : List Str} {means : ExcName → Option Value} {ns : List Str} {vs : List (Option Value)} {x : Str} {i : Nat} {v : Value}

theorem ldV {pos : Pos} {Q : Value → Shared → Prop} (l : Loc cs ns x i) (F : Fr h₀ L h (lv ns vs)) (hv : vs[i]? = some (some v)) (k : Q v ⟨h, g, d, t, os⟩) :
    wpAny M A (eval (.Name x pos) (envOf cn cs L a ccd)) Q E ⟨h, g, d, t, os⟩ := ld (s := ⟨h, g, d, t, os⟩) F (lv_get l.hI hv) k l.kind l.name l.hD
theorem stV {Q : Unit → Shared → Prop} (l : Loc cs ns x i) (F : Fr h₀ L h (lv ns vs)) (N : News h₀ L h news) (hl : i < vs.length)
    (k : ∀ h', Fr h₀ L h' (lv ns (vs.set i (some v))) → News h₀ L h' news → Q () ⟨h', g, d, t + 1, os⟩) : wpAny M A (storeName (envOf cn cs L a ccd) x v) Q E ⟨h, g, d, t, os⟩ := by
  refine stN (s := ⟨h, g, d, t, os⟩) F N (fun h' F' N' => k h' ?_ N') l.kind l.name
  rw [← lv_set l.hI hl]; exact F'
theorem glV {f : Addr} {pos : Pos} {Q : Value → Shared → Prop} (l : Glo cs x) (gf : GF w.params x f) (F : Fr h₀ L h m) (X : (hd.heap_1 w.params).In h₀) (T : Top p loose means mg mb h₀) (k : Q (.ref f) ⟨h, g, d, t, os⟩) :
    wpAny M A (eval (.Name x pos) (envOf cn cs L a ccd)) Q E ⟨h, g, d, t, os⟩ := name_K (s := ⟨h, g, d, t, os⟩) F X (topRead_of T) gf.hG k l.kind l.name l.hD
theorem gbV {pos : Pos} {Q : Value → Shared → Prop} (l : Glo cs x) (gb : GB w.params x v) (F : Fr h₀ L h m) (X : (hd.heap_1 w.params).In h₀) (T : Top p loose means mg mb h₀) (k : Q v ⟨h, g, d, t, os⟩) :
    wpAny M A (eval (.Name x pos) (envOf cn cs L a ccd)) Q E ⟨h, g, d, t, os⟩ := name_B (s := ⟨h, g, d, t, os⟩) F X (topRead_of T) gb.hG gb.hB gb.hN k l.kind l.name l.hD
theorem cI {j : Int} {n : Nat} {pos : Pos} {env : Env} {Q : Value → Shared → Prop} (k : Q (.int j t) ⟨h, g, d, t + 1, os⟩) : wpAny M A (eval (.Constant (.int j) n pos) env) Q E ⟨h, g, d, t, os⟩ := wpAny_Constant_int k
theorem cS {n : Nat} {pos : Pos} {env : Env} {Q : Value → Shared → Prop} (k : Q (.str x t) ⟨h, g, d, t + 1, os⟩) : wpAny M A (eval (.Constant (.str x) n pos) env) Q E ⟨h, g, d, t, os⟩ := Calls.Constant_str k

theorem callG {f : Addr} {np pos : Pos} {e : PySem.Expr} {args : List PySem.Expr} {Q : Value → Shared → Prop} (l : Glo cs x) (gf : GF w.params x f) (F : Fr h₀ L h m) (X : (hd.heap_1 w.params).In h₀) (T : Top p loose means mg mb h₀)
    (k : wpAny M A (spliced (backTo pos (starEach (e :: args) (envOf cn cs L a ccd)))) (fun vs s₁ => (hd.heap_1 w.params).In s₁.heap ∧ wpAny M A (call (.ref f) vs) Q E s₁) E ⟨h, g, d, t, os⟩)
    (he : starEach (e :: args) (envOf cn cs L a ccd) = (false, eval e (envOf cn cs L a ccd)) :: starEach args (envOf cn cs L a ccd) := by rfl) (hplain : (backTo pos (starEach args (envOf cn cs L a ccd))).any (·.1) = false := by rfl) :
    wpAny M A (eval (.Call (.Name x np) (e :: args) [] pos) (envOf cn cs L a ccd)) Q E ⟨h, g, d, t, os⟩ :=
  Call_ (glV l gf F X T (callWith_K X gf.hC (by simpa using k) he hplain)) rfl
theorem callG0 {f : Addr} {np pos : Pos} {Q : Value → Shared → Prop} (l : Glo cs x) (gf : GF w.params x f) (F : Fr h₀ L h m) (X : (hd.heap_1 w.params).In h₀) (T : Top p loose means mg mb h₀) (k : wpAny M A (call (.ref f) []) Q E ⟨h, g, d, t, os⟩) :
    wpAny M A (eval (.Call (.Name x np) [] [] pos) (envOf cn cs L a ccd)) Q E ⟨h, g, d, t, os⟩ :=
  Call_ (glV l gf F X T (callWith_K0 (X.keeps F.keep) gf.hC (by simpa using k))) rfl

theorem atL {C x dx : Addr} {name : Str} {n : Nat} {b : Bool} {Q : Value → Shared → Prop} {prog : Program} (ao : AO w.params C name) (F : Fr h₀ L h m) (X : (hd.heap_1 w.params).In h₀) (N : News h₀ L h news) (h1 : (x, instObj C dx) ∈ news) (h2 : (dx, dictOf es n) ∈ news)
    (hl : getL name es = some (some v)) (hv : handedIn v = true) (k : Q v ⟨h, g, d, t + 1, os⟩) : wpAny (model prog w) A (getAttr (.ref x) name b) Q E ⟨h, g, d, t, os⟩ :=
  get_own (s := ⟨h, g, d, t, os⟩) F X (InstAt.of_news N h1 h2) (ao.co.hP _) ao.co.hH ao.hF (by rfl) hl hv k
theorem saL {C x dx : Addr} {name : Str} {n n' : Nat} {es' : List DictEntry} {news' : List (Addr × Obj)} {Q : Unit → Shared → Prop} {prog : Program} (co : CO w.params C) (F : Fr h₀ L h m) (X : (hd.heap_1 w.params).In h₀) (N : News h₀ L h news) (h1 : (x, instObj C dx) ∈ news) (h2 : (dx, dictOf es n) ∈ news)
    (ht : takerIn (hd.heap_1 w.params) C name = some none) (hl : (getL name es).isSome = true)
    (e : (putL name (PyData.keyHash w.params name) (.str name (t + 1)) v es, putN name es n) = (es', n')) (U : Upd dx (dictOf es n) (dictOf es' n') news news') (hz : es'.length ≤ 1000)
    (k : ∀ h', Fr h₀ L h' m → News h₀ L h' news' → Q () ⟨h', g, d, t + 2, os⟩) : wpAny (model prog w) A (setAttr (.ref x) name v) Q E ⟨h, g, d, t, os⟩ :=
  set_dict (s := ⟨h, g, d, t, os⟩) F X N (InstAt.of_news N h1 h2) rfl co.hS co.hO ht co.hH hl e U hz k
theorem item_led {value slice : PySem.Expr} {l : Addr} {its : List Value} {n j : Nat} {k : Int} {u : Tok} {Q : Value → Shared → Prop} {prog : Program} (N : News h₀ L h news) (hm : (l, listOf its.toArray n) ∈ news) (hj : k.toNat = j) (h0 : 0 ≤ k) (hhi : k < 2 ^ 63) (hx : its[j]? = some v) (c : Q v ⟨h, g, d, t, os⟩)
    (hs : subscripted slice false (.ref l) (.int k u) = operate [.ref l, .int k u] (getItem (.ref l) (.int k u)) := by with_unfolding_all rfl) :
    wpAny (model prog w) A (subscriptTail value slice (.ref l) (.int k u)) Q E ⟨h, g, d, t, os⟩ := by
  have hl : h.IsList l its.toArray := ⟨_, (N _ hm).1, rfl, n, rfl⟩
  subst hj
  exact tail_any (s := ⟨h, g, d, t, os⟩) hl.typeIs slot_list_getitem.lookup (wpAny_getItem_list hl h0 hhi (by simpa using hx) c) hs
end

theorem mul12 {w : World} {prog : Program} {A : Around} {E : Value → Shared → Prop} {h₀ h : Heap} {L l : Addr} {g : Array GenState} {d : Drawn} {t : Nat} {os : OsState} {m : Str → Option Value} {news : List (Addr × Obj)} {v : Value} {n : Nat} {x : Int} {u : Tok} {Q : Value → Shared → Prop}
    (F : Fr h₀ L h m) (N : News h₀ L h news) (hm : (l, listOf #[v] n) ∈ news) (h1 : 1 ≤ x) (h2 : x ≤ 2)
    (k : ∀ r h' (two : Bool), Fr h₀ L h' m → News h₀ L h' ((r, listOf (if two then #[v, v] else #[v]) 0) :: news) → (∀ p ∈ news, p.1 < r) → Q (.ref r) ⟨h', g, d, t, os⟩) :
    wpAny (model prog w) A (binaryOp .Mult (.ref l) (.int x u)) Q E ⟨h, g, d, t, os⟩ := by
  refine mul_list (s := ⟨h, g, d, t, os⟩) F N (N _ hm).1 (by omega) (by omega) (by show 1 * x.toNat ≤ 2 ^ 24; omega) fun h' F' N' => ?_
  have hx : x = 1 ∨ x = 2 := by omega
  rcases hx with rfl | rfl
  · exact k _ h' false F' N' fun p hp => Heap.lt_size (N p hp).1
  · exact k _ h' true F' N' fun p hp => Heap.lt_size (N p hp).1

noncomputable def CtB (w : World) (mg mb : Str → Option Value) (means : ExcName → Option Value) (bl : List (Addr × List Value)) (f : Addr) (vals : List Value) (dd uu : Nat) (news : List (Addr × Obj)) (Ok : Value → List (Addr × Obj) → Prop) : Prop :=
  ∀ (dp un : Nat) (gd : Option (List Code)) (cn : Str) (cs : Scope) (a : Addr) (ccd : Value) (cl : List (Str × Addr)) (outer : List Env) (A₀ : Around) (base h₀ : Heap) (L : Addr) (m : Str → Option Value) (h : Heap) (g : Array GenState) (d : Drawn) (t : Nat) (os : OsState) (Q E : Value → Shared → Prop),
    Below A₀ base outer h₀ → Fr h₀ L h m → (hd.heap_1 w.params).In h₀ → News h₀ L h news → Top hd.view_39 (looseW hd.view_39 [Str.ofString "number_text"]) means mg mb h₀ → (∀ p ∈ bl, h₀.IsList p.1 p.2.toArray) → cs.kind = .function → dp + dd < recursionLimit → un + uu < cLine →
    (∀ r news' h' tk', Ok r news' → Fr h₀ L h' m → News h₀ L h' news' → Q r ⟨h', g, d, tk', os⟩) →
    wpAny (model PySem.Challenge.rw_nz0498_01.row.prog w) (ktrTop dp un gd cn cs L a ccd cl outer) (call (.ref f) vals) Q E ⟨h, g, d, t, os⟩
noncomputable abbrev Ct (w : World) (mg mb : Str → Option Value) (means : ExcName → Option Value) := CtB w mg mb means []
noncomputable def Done (p : Prop) : Prop := p
noncomputable def Lv (g : Heap) (Ok : Value → List (Addr × Obj) → Prop) (gs : Array GenState) (d : Drawn) (os : OsState) (v : Value) (s' : Shared) : Prop :=
  ∃ L' m' news' h' tk', s' = ⟨h', gs, d, tk', os⟩ ∧ Fr g L' h' m' ∧ News g L' h' news' ∧ Ok v news'
theorem lv_ret {g h : Heap} {L : Addr} {m : Str → Option Value} {news : List (Addr × Obj)} {Ok : Value → List (Addr × Obj) → Prop} {gs : Array GenState} {d : Drawn} {os : OsState} {v : Value} {tk : Nat} (F : Fr g L h m) (N : News g L h news) (ok : Done (Ok v news)) :
    Lv g Ok gs d os v ⟨h, gs, d, tk, os⟩ := ⟨L, m, news, h, tk, rfl, F, N, ok⟩

section
variable {w : World} {mg mb : Str → Option Value} {means : ExcName → Option Value} {f : Addr} {vals : List Value} {dd uu : Nat} {news : List (Addr × Obj)} {Ok : Value → List (Addr × Obj) → Prop} {bl : List (Addr × List Value)}
theorem Ct.use {dp un : Nat} {gd : Option (List Code)} {cn : Str} {cs : Scope} {a : Addr} {ccd : Value} {cl : List (Str × Addr)} {outer : List Env} {A₀ : Around} {base h₀ : Heap} {L : Addr} {m : Str → Option Value} {h : Heap} {g : Array GenState} {d : Drawn} {t : Nat} {os : OsState} {Q E : Value → Shared → Prop} {news₀ : List (Addr × Obj)}
    (C : CtB w mg mb means bl f vals dd uu news Ok) (B : Below A₀ base outer h₀) (F : Fr h₀ L h m) (X : (hd.heap_1 w.params).In h₀) (N : News h₀ L h news₀) (T : Top hd.view_39 (looseW hd.view_39 [Str.ofString "number_text"]) means mg mb h₀) (hb : ∀ p ∈ bl, h₀.IsList p.1 p.2.toArray) (hk : cs.kind = .function)
    (hdp : dp + dd < recursionLimit) (hun : un + uu < cLine) (sub : ∀ p ∈ news, p ∈ news₀)
    (k : ∀ r news' h' tk', Ok r news' → Fr h₀ L h' m → News h₀ L h' news' → Q r ⟨h', g, d, tk', os⟩) :
    wpAny (model PySem.Challenge.rw_nz0498_01.row.prog w) (ktrTop dp un gd cn cs L a ccd cl outer) (call (.ref f) vals) Q E ⟨h, g, d, t, os⟩ :=
  C _ _ _ _ _ _ _ _ _ _ _ _ _ _ _ _ _ _ _ _ _ B F X (fun p hp => N p (sub p hp)) T hb hk hdp hun k
theorem Ct.mono {Ok' : Value → List (Addr × Obj) → Prop} (C : CtB w mg mb means bl f vals dd uu news Ok) (h : ∀ r l, Ok r l → Ok' r l) : CtB w mg mb means bl f vals dd uu news Ok' := by
  unfold CtB at C ⊢
  intro dp un gd cn cs a ccd cl outer A₀ base h₀ L m hh g d t os Q E B F X N T hb hk hdp hun k
  exact C dp un gd cn cs a ccd cl outer A₀ base h₀ L m hh g d t os Q E B F X N T hb hk hdp hun fun r l h' tk' ok => k r l h' tk' (h r l ok)

noncomputable def namesOk (cs : Scope) (ns gs : List Str) : Bool :=
  cs.kind == ScopeKind.function && ns.zipIdx.all (fun p => cs.names.lookup p.1 == some NameKind.local && !(p.1 == ("__debug__" : Str)) && ns.idxOf? p.1 == some p.2) && gs.all (fun x => cs.names.lookup x == some NameKind.globalImplicit && !(x == ("__debug__" : Str)))
theorem names_loc {cs : Scope} {ns gs : List Str} (h : namesOk cs ns gs = true) (i : Nat) (x : Str) (hx : ns[i]? = some x) : Loc cs ns x i := by
  unfold namesOk at h
  simp only [Bool.and_eq_true] at h
  obtain ⟨⟨h1, h2⟩, _⟩ := h
  have hm : (x, i) ∈ ns.zipIdx := List.mem_zipIdx_iff_getElem?.mpr hx
  have h3 := List.all_eq_true.mp h2 _ hm
  simp only [Bool.and_eq_true, Bool.not_eq_true'] at h3
  exact ⟨h1, h3.1.1, h3.1.2, beq_iff_eq.mp h3.2⟩
theorem names_glo {cs : Scope} {ns gs : List Str} (h : namesOk cs ns gs = true) (i : Nat) (x : Str) (hx : gs[i]? = some x) : Glo cs x := by
  unfold namesOk at h
  simp only [Bool.and_eq_true] at h
  obtain ⟨⟨h1, _⟩, h2⟩ := h
  have h3 := List.all_eq_true.mp h2 _ (List.mem_of_getElem? hx)
  simp only [Bool.and_eq_true, Bool.not_eq_true'] at h3
  exact ⟨h1, h3.1, h3.2⟩

theorem ct_enter {name qual : Str} {params : Arguments} {body : List Stmt} {scope : Scope} {dV kV doc pm cdv ct oc : Value} {an od : Option Addr} {osl : Array (Option Value)} (ns gs : List Str) (vs : List (Option Value))
    (ho : (hd.heap_1 w.params).lookup f = some ⟨oc, od, .func (fnOf name qual params body scope dV kV doc pm an cdv ct), osl⟩) (hcd : codeIn (hd.heap_1 w.params) cdv qual = true) (hN : namesOk scope ns gs = true)
    (hbind : ∀ s, BindsTo s (fnOf name qual params body scope dV kV doc pm an cdv ct) ⟨vals, []⟩ (ns.zip vals)) (hlv : (∀ (i : Nat) (x : Str), ns[i]? = some x → ns.idxOf? x = some i) → (fun y => (ns.zip vals).reverse.lookup y) = lv ns vs)
    (hco : scope.isCoroutine = false) (hgen : scope.isGenerator = false) (hcell : ∀ x ∈ scope.names, x.2 ≠ .cell)
    (walk : (∀ (i : Nat) (x : Str), ns[i]? = some x → Loc scope ns x i) → (∀ (i : Nat) (x : Str), gs[i]? = some x → Glo scope x) →
      ∀ (dp un : Nat) (gd : Option (List Code)) (outer : List Env) (A₀ : Around) (base g : Heap) (L : Addr) (h : Heap) (gs : Array GenState) (d : Drawn) (t : Nat) (os : OsState), Below A₀ base outer g → Fr g L h (lv ns vs) → (hd.heap_1 w.params).In g → News g L h news →
      Top hd.view_39 (looseW hd.view_39 [Str.ofString "number_text"]) means mg mb g → (∀ p ∈ bl, g.IsList p.1 p.2.toArray) → dp + dd < recursionLimit → un + uu < cLine →
      wpAny (model PySem.Challenge.rw_nz0498_01.row.prog w) (ktrTop dp un gd qual scope L f cdv [] outer) (execs body (envOf qual scope L f cdv)) (fun fl s' => Lv g Ok gs d os (match fl with | .ret v => v | _ => .none) s') (fun _ _ => False) ⟨h, gs, d, t, os⟩) :
    CtB w mg mb means bl f vals (dd + 1) (uu + 3) news Ok := by
  unfold CtB
  intro dp un gd cn cs a ccd cl outer A₀ base h₀ L m h g d t os Q E B F X N T hb hke hdp hun ret
  have hk : scope.kind = .function := by
    have := hN
    unfold namesOk at this
    simp only [Bool.and_eq_true] at this
    have h1 := this.1.1
    revert h1; cases scope.kind <;> simp <;> decide
  refine wpAny_call (code_def (s := ⟨h, g, d, t, os⟩) (env := envX cn cs L a ccd cl) (outer := outer) B F X N T rfl rfl hke ho hcd (by show dp < _; omega) (hbind _) (fun y hy => ?_) (fun g' L' h₁ FG F' N' B' X' T' => ?_) hco hgen hk hcell)
  · obtain ⟨i, hi⟩ := List.getElem?_of_mem (List.of_mem_zip (a := y.1) (b := y.2) hy).1
    exact (names_loc hN i _ hi).name
  rw [hlv fun i x hx => (names_loc hN i x hx).hI] at F'
  refine wpAny_mono (walk (names_loc hN) (names_glo hN) (dp + 1) (un + 3) gd (envX cn cs L a ccd cl :: outer) _ base g' L' h₁ g d _ os B' F' X' N' T' (fun p hp => (hb p hp).at fun o e => FG.keep _ o e) (by omega) (by omega)) (fun fl s' hl => ?_) fun _ _ e => e.elim
  obtain ⟨L'', m'', news', h', tk', rfl, F'', N'', ok⟩ := hl
  exact ⟨L'', m'', news', F'', N'', fun F₃ N₃ => ret _ news' h' tk' ok F₃ N₃⟩
end
section
variable {w : World} {prog : Program} {A : Around} {E : Value → Shared → Prop} {h₀ h : Heap} {L : Addr} {g : Array GenState} {d : Drawn} {t : Nat} {os : OsState} {m : Str → Option Value} {news : List (Addr × Obj)}
theorem item_any {value slice : PySem.Expr} {l : Addr} {its : List Value} {n : Nat} {k : Int} {u : Tok} {Q : Value → Shared → Prop} (N : News h₀ L h news) (hm : (l, listOf its.toArray n) ∈ news) (h0 : 0 ≤ k) (h1 : k < (its.length : Int)) (hz : its.length ≤ 100000) (c : ∀ v ∈ its, Q v ⟨h, g, d, t, os⟩)
    (hs : subscripted slice false (.ref l) (.int k u) = operate [.ref l, .int k u] (getItem (.ref l) (.int k u)) := by with_unfolding_all rfl) :
    wpAny (model prog w) A (subscriptTail value slice (.ref l) (.int k u)) Q E ⟨h, g, d, t, os⟩ := by
  have hl : h.IsList l its.toArray := ⟨_, (N _ hm).1, rfl, n, rfl⟩
  have hlt : k.toNat < its.length := by omega
  exact tail_any (s := ⟨h, g, d, t, os⟩) hl.typeIs slot_list_getitem.lookup (wpAny_getItem_list hl h0 (by omega) (by simp [hlt]) (c _ (List.getElem_mem hlt))) hs
theorem newTupL {vs : List Value} {Q : Value → Shared → Prop} (F : Fr h₀ L h m) (N : News h₀ L h news) (hsz : vs.length ≤ 1000)
    (k : ∀ r h', Fr h₀ L h' m → News h₀ L h' ((r, { cls := .type "tuple", data := .seq vs.toArray }) :: news) → (∀ p ∈ news, p.1 < r) → Q (.ref r) ⟨h', g, d, t, os⟩) : wpAny (model prog w) A (newTuple vs) Q E ⟨h, g, d, t, os⟩ :=
  newTuple_N (s := ⟨h, g, d, t, os⟩) F N (fun h' F' N' => k _ h' F' N' fun p hp => Heap.lt_size (N p hp).1) (by have : sizeLine = 2 ^ 24 := sizeLine_eq; omega)
end
theorem gf_get_attr (P : Params) : GF P (Str.ofString "get_attr") 28 := ⟨by k_is, by k_is⟩
theorem gf_names_of (P : Params) : GF P (Str.ofString "names_of") 33 := ⟨by k_is, by k_is⟩
theorem gf_dim_of (P : Params) : GF P (Str.ofString "dim_of") 40 := ⟨by k_is, by k_is⟩
theorem gf_Refusal (P : Params) : GF P (Str.ofString "Refusal") 75 := ⟨by k_is, by k_is⟩
theorem gf_is_na (P : Params) : GF P (Str.ofString "is_na") 108 := ⟨by k_is, by k_is⟩
theorem gf_Null (P : Params) : GF P (Str.ofString "Null") 285 := ⟨by k_is, by k_is⟩
theorem gf_Vector (P : Params) : GF P (Str.ofString "Vector") 314 := ⟨by k_is, by k_is⟩
theorem gf_Symbol (P : Params) : GF P (Str.ofString "Symbol") 335 := ⟨by k_is, by k_is⟩
theorem gf_Call (P : Params) : GF P (Str.ofString "Call") 357 := ⟨by k_is, by k_is⟩
theorem gf_Closure (P : Params) : GF P (Str.ofString "Closure") 379 := ⟨by k_is, by k_is⟩
theorem gf_Environment (P : Params) : GF P (Str.ofString "Environment") 401 := ⟨by k_is, by k_is⟩
theorem gf_character (P : Params) : GF P (Str.ofString "character") 412 := ⟨by k_is, by k_is⟩
theorem gf_length (P : Params) : GF P (Str.ofString "length") 419 := ⟨by k_is, by k_is⟩
theorem gf_is_atomic (P : Params) : GF P (Str.ofString "is_atomic") 426 := ⟨by k_is, by k_is⟩
theorem gf_share (P : Params) : GF P (Str.ofString "share") 433 := ⟨by k_is, by k_is⟩
theorem gf_as_logical_text (P : Params) : GF P (Str.ofString "as_logical_text") 447 := ⟨by k_is, by k_is⟩
theorem gf_to_logical (P : Params) : GF P (Str.ofString "to_logical") 468 := ⟨by k_is, by k_is⟩
theorem gf_item_as (P : Params) : GF P (Str.ofString "item_as") 496 := ⟨by k_is, by k_is⟩
theorem gf_is_atomic_kind (P : Params) : GF P (Str.ofString "is_atomic_kind") 503 := ⟨by k_is, by k_is⟩
theorem gf_list_item_as (P : Params) : GF P (Str.ofString "list_item_as") 510 := ⟨by k_is, by k_is⟩
theorem gf_refuse_type (P : Params) : GF P (Str.ofString "refuse_type") 517 := ⟨by k_is, by k_is⟩
theorem gf_as_vector_kind (P : Params) : GF P (Str.ofString "as_vector_kind") 522 := ⟨by k_is, by k_is⟩
theorem gf_with_names (P : Params) : GF P (Str.ofString "with_names") 529 := ⟨by k_is, by k_is⟩
theorem gf_as_kind (P : Params) : GF P (Str.ofString "as_kind") 534 := ⟨by k_is, by k_is⟩
theorem gf_as_list (P : Params) : GF P (Str.ofString "as_list") 541 := ⟨by k_is, by k_is⟩
theorem gf_condition (P : Params) : GF P (Str.ofString "condition") 548 := ⟨by k_is, by k_is⟩
theorem gf_to_text (P : Params) : GF P (Str.ofString "to_text") 489 := ⟨by k_is, by k_is⟩
theorem gf_law_draws (P : Params) : GF P (Str.ofString "_law_draws") 555 := ⟨by k_is, by k_is⟩
theorem gf_law_take (P : Params) : GF P (Str.ofString "_law_take") 562 := ⟨by k_is, by k_is⟩
theorem gf_law_item (P : Params) : GF P (Str.ofString "_law_item") 567 := ⟨by k_is, by k_is⟩
theorem gf_law_atomic (P : Params) : GF P (Str.ofString "_law_atomic") 572 := ⟨by k_is, by k_is⟩
theorem gf_law_named (P : Params) : GF P (Str.ofString "_law_named") 577 := ⟨by k_is, by k_is⟩
theorem gf_law_value (P : Params) : GF P (Str.ofString "_law_value") 582 := ⟨by k_is, by k_is⟩
theorem gf_law_simple (P : Params) : GF P (Str.ofString "_law_simple") 589 := ⟨by k_is, by k_is⟩
theorem gf_law_size (P : Params) : GF P (Str.ofString "_law_size") 596 := ⟨by k_is, by k_is⟩
theorem gf_law_told (P : Params) : GF P (Str.ofString "_law_told") 603 := ⟨by k_is, by k_is⟩
theorem gf_law_alike (P : Params) : GF P (Str.ofString "_law_alike") 610 := ⟨by k_is, by k_is⟩
theorem gf_law_heads (P : Params) : GF P (Str.ofString "_law_heads") 615 := ⟨by k_is, by k_is⟩
theorem gf_law_listed (P : Params) : GF P (Str.ofString "_law_listed") 620 := ⟨by k_is, by k_is⟩
theorem gf_law_list_right (P : Params) : GF P (Str.ofString "_law_list_right") 627 := ⟨by k_is, by k_is⟩
theorem gf_law_made (P : Params) : GF P (Str.ofString "_law_made") 634 := ⟨by k_is, by k_is⟩
theorem gf_law_texts (P : Params) : GF P (Str.ofString "_law_texts") 641 := ⟨by k_is, by k_is⟩
theorem gf_law_kinds_right (P : Params) : GF P (Str.ofString "_law_kinds_right") 648 := ⟨by k_is, by k_is⟩
theorem gb_len (P : Params) : GB P (Str.ofString "len") (.builtin "len") := ⟨by k_is, by boot_by_name, by decide +kernel⟩
theorem gb_isinstance (P : Params) : GB P (Str.ofString "isinstance") (.builtin "isinstance") := ⟨by k_is, by boot_by_name, by decide +kernel⟩
theorem gb_range (P : Params) : GB P (Str.ofString "range") (.type "range") := ⟨by k_is, by boot_by_name, by decide +kernel⟩
theorem gb_list (P : Params) : GB P (Str.ofString "list") (.type "list") := ⟨by k_is, by boot_by_name, by decide +kernel⟩
theorem gb_str (P : Params) : GB P (Str.ofString "str") (.type "str") := ⟨by k_is, by boot_by_name, by decide +kernel⟩
theorem gb_int (P : Params) : GB P (Str.ofString "int") (.type "int") := ⟨by k_is, by boot_by_name, by decide +kernel⟩
theorem gb_abs (P : Params) : GB P (Str.ofString "abs") (.builtin "abs") := ⟨by k_is, by boot_by_name, by decide +kernel⟩
theorem gb_bool (P : Params) : GB P (Str.ofString "bool") (.type "bool") := ⟨by k_is, by boot_by_name, by decide +kernel⟩
theorem co_285 (P : Params) : CO P 285 := ⟨fun _ => by kernel_rfl!, by k_is, by k_is, by k_is⟩
theorem ao_285_kind (P : Params) : AO P 285 (Str.ofString "kind") := ⟨co_285 P, by k_is⟩
theorem tk_285_kind (P : Params) : takerIn (hd.heap_1 P) 285 (Str.ofString "kind") = some none := by k_is
theorem ao_285_attrs (P : Params) : AO P 285 (Str.ofString "attrs") := ⟨co_285 P, by k_is⟩
theorem tk_285_attrs (P : Params) : takerIn (hd.heap_1 P) 285 (Str.ofString "attrs") = some none := by k_is
theorem gl_285_kind {h0 h1 : Int} {t0 t1 : Tok} {v0 v1 : Value} : getL (Str.ofString "kind") [⟨h0, .str (Str.ofString "kind") t0, v0⟩, ⟨h1, .str (Str.ofString "attrs") t1, v1⟩] = some (some v0) := by k_get
theorem gl_285_attrs {h0 h1 : Int} {t0 t1 : Tok} {v0 v1 : Value} : getL (Str.ofString "attrs") [⟨h0, .str (Str.ofString "kind") t0, v0⟩, ⟨h1, .str (Str.ofString "attrs") t1, v1⟩] = some (some v1) := by k_get
theorem co_314 (P : Params) : CO P 314 := ⟨fun _ => by kernel_rfl!, by k_is, by k_is, by k_is⟩
theorem ao_314_kind (P : Params) : AO P 314 (Str.ofString "kind") := ⟨co_314 P, by k_is⟩
theorem tk_314_kind (P : Params) : takerIn (hd.heap_1 P) 314 (Str.ofString "kind") = some none := by k_is
theorem ao_314_items (P : Params) : AO P 314 (Str.ofString "items") := ⟨co_314 P, by k_is⟩
theorem tk_314_items (P : Params) : takerIn (hd.heap_1 P) 314 (Str.ofString "items") = some none := by k_is
theorem ao_314_attrs (P : Params) : AO P 314 (Str.ofString "attrs") := ⟨co_314 P, by k_is⟩
theorem tk_314_attrs (P : Params) : takerIn (hd.heap_1 P) 314 (Str.ofString "attrs") = some none := by k_is
theorem ao_314_shared (P : Params) : AO P 314 (Str.ofString "shared") := ⟨co_314 P, by k_is⟩
theorem tk_314_shared (P : Params) : takerIn (hd.heap_1 P) 314 (Str.ofString "shared") = some none := by k_is
theorem ao_314_loose (P : Params) : AO P 314 (Str.ofString "loose") := ⟨co_314 P, by k_is⟩
theorem tk_314_loose (P : Params) : takerIn (hd.heap_1 P) 314 (Str.ofString "loose") = some none := by k_is
theorem gl_314_kind {h0 h1 h2 h3 h4 : Int} {t0 t1 t2 t3 t4 : Tok} {v0 v1 v2 v3 v4 : Value} : getL (Str.ofString "kind") [⟨h0, .str (Str.ofString "kind") t0, v0⟩, ⟨h1, .str (Str.ofString "items") t1, v1⟩, ⟨h2, .str (Str.ofString "attrs") t2, v2⟩, ⟨h3, .str (Str.ofString "shared") t3, v3⟩, ⟨h4, .str (Str.ofString "loose") t4, v4⟩] = some (some v0) := by k_get
theorem gl_314_items {h0 h1 h2 h3 h4 : Int} {t0 t1 t2 t3 t4 : Tok} {v0 v1 v2 v3 v4 : Value} : getL (Str.ofString "items") [⟨h0, .str (Str.ofString "kind") t0, v0⟩, ⟨h1, .str (Str.ofString "items") t1, v1⟩, ⟨h2, .str (Str.ofString "attrs") t2, v2⟩, ⟨h3, .str (Str.ofString "shared") t3, v3⟩, ⟨h4, .str (Str.ofString "loose") t4, v4⟩] = some (some v1) := by k_get
theorem gl_314_attrs {h0 h1 h2 h3 h4 : Int} {t0 t1 t2 t3 t4 : Tok} {v0 v1 v2 v3 v4 : Value} : getL (Str.ofString "attrs") [⟨h0, .str (Str.ofString "kind") t0, v0⟩, ⟨h1, .str (Str.ofString "items") t1, v1⟩, ⟨h2, .str (Str.ofString "attrs") t2, v2⟩, ⟨h3, .str (Str.ofString "shared") t3, v3⟩, ⟨h4, .str (Str.ofString "loose") t4, v4⟩] = some (some v2) := by k_get
theorem gl_314_shared {h0 h1 h2 h3 h4 : Int} {t0 t1 t2 t3 t4 : Tok} {v0 v1 v2 v3 v4 : Value} : getL (Str.ofString "shared") [⟨h0, .str (Str.ofString "kind") t0, v0⟩, ⟨h1, .str (Str.ofString "items") t1, v1⟩, ⟨h2, .str (Str.ofString "attrs") t2, v2⟩, ⟨h3, .str (Str.ofString "shared") t3, v3⟩, ⟨h4, .str (Str.ofString "loose") t4, v4⟩] = some (some v3) := by k_get
theorem gl_314_loose {h0 h1 h2 h3 h4 : Int} {t0 t1 t2 t3 t4 : Tok} {v0 v1 v2 v3 v4 : Value} : getL (Str.ofString "loose") [⟨h0, .str (Str.ofString "kind") t0, v0⟩, ⟨h1, .str (Str.ofString "items") t1, v1⟩, ⟨h2, .str (Str.ofString "attrs") t2, v2⟩, ⟨h3, .str (Str.ofString "shared") t3, v3⟩, ⟨h4, .str (Str.ofString "loose") t4, v4⟩] = some (some v4) := by k_get
theorem co_335 (P : Params) : CO P 335 := ⟨fun _ => by kernel_rfl!, by k_is, by k_is, by k_is⟩
theorem ao_335_kind (P : Params) : AO P 335 (Str.ofString "kind") := ⟨co_335 P, by k_is⟩
theorem tk_335_kind (P : Params) : takerIn (hd.heap_1 P) 335 (Str.ofString "kind") = some none := by k_is
theorem ao_335_name (P : Params) : AO P 335 (Str.ofString "name") := ⟨co_335 P, by k_is⟩
theorem tk_335_name (P : Params) : takerIn (hd.heap_1 P) 335 (Str.ofString "name") = some none := by k_is
theorem ao_335_attrs (P : Params) : AO P 335 (Str.ofString "attrs") := ⟨co_335 P, by k_is⟩
theorem tk_335_attrs (P : Params) : takerIn (hd.heap_1 P) 335 (Str.ofString "attrs") = some none := by k_is
theorem gl_335_kind {h0 h1 h2 : Int} {t0 t1 t2 : Tok} {v0 v1 v2 : Value} : getL (Str.ofString "kind") [⟨h0, .str (Str.ofString "kind") t0, v0⟩, ⟨h1, .str (Str.ofString "name") t1, v1⟩, ⟨h2, .str (Str.ofString "attrs") t2, v2⟩] = some (some v0) := by k_get
theorem gl_335_name {h0 h1 h2 : Int} {t0 t1 t2 : Tok} {v0 v1 v2 : Value} : getL (Str.ofString "name") [⟨h0, .str (Str.ofString "kind") t0, v0⟩, ⟨h1, .str (Str.ofString "name") t1, v1⟩, ⟨h2, .str (Str.ofString "attrs") t2, v2⟩] = some (some v1) := by k_get
theorem gl_335_attrs {h0 h1 h2 : Int} {t0 t1 t2 : Tok} {v0 v1 v2 : Value} : getL (Str.ofString "attrs") [⟨h0, .str (Str.ofString "kind") t0, v0⟩, ⟨h1, .str (Str.ofString "name") t1, v1⟩, ⟨h2, .str (Str.ofString "attrs") t2, v2⟩] = some (some v2) := by k_get
theorem co_357 (P : Params) : CO P 357 := ⟨fun _ => by kernel_rfl!, by k_is, by k_is, by k_is⟩
theorem ao_357_kind (P : Params) : AO P 357 (Str.ofString "kind") := ⟨co_357 P, by k_is⟩
theorem tk_357_kind (P : Params) : takerIn (hd.heap_1 P) 357 (Str.ofString "kind") = some none := by k_is
theorem ao_357_items (P : Params) : AO P 357 (Str.ofString "items") := ⟨co_357 P, by k_is⟩
theorem tk_357_items (P : Params) : takerIn (hd.heap_1 P) 357 (Str.ofString "items") = some none := by k_is
theorem ao_357_tags (P : Params) : AO P 357 (Str.ofString "tags") := ⟨co_357 P, by k_is⟩
theorem tk_357_tags (P : Params) : takerIn (hd.heap_1 P) 357 (Str.ofString "tags") = some none := by k_is
theorem ao_357_attrs (P : Params) : AO P 357 (Str.ofString "attrs") := ⟨co_357 P, by k_is⟩
theorem tk_357_attrs (P : Params) : takerIn (hd.heap_1 P) 357 (Str.ofString "attrs") = some none := by k_is
theorem ao_357_code (P : Params) : AO P 357 (Str.ofString "code") := ⟨co_357 P, by k_is⟩
theorem tk_357_code (P : Params) : takerIn (hd.heap_1 P) 357 (Str.ofString "code") = some none := by k_is
theorem gl_357_kind {h0 h1 h2 h3 h4 : Int} {t0 t1 t2 t3 t4 : Tok} {v0 v1 v2 v3 v4 : Value} : getL (Str.ofString "kind") [⟨h0, .str (Str.ofString "kind") t0, v0⟩, ⟨h1, .str (Str.ofString "items") t1, v1⟩, ⟨h2, .str (Str.ofString "tags") t2, v2⟩, ⟨h3, .str (Str.ofString "attrs") t3, v3⟩, ⟨h4, .str (Str.ofString "code") t4, v4⟩] = some (some v0) := by k_get
theorem gl_357_items {h0 h1 h2 h3 h4 : Int} {t0 t1 t2 t3 t4 : Tok} {v0 v1 v2 v3 v4 : Value} : getL (Str.ofString "items") [⟨h0, .str (Str.ofString "kind") t0, v0⟩, ⟨h1, .str (Str.ofString "items") t1, v1⟩, ⟨h2, .str (Str.ofString "tags") t2, v2⟩, ⟨h3, .str (Str.ofString "attrs") t3, v3⟩, ⟨h4, .str (Str.ofString "code") t4, v4⟩] = some (some v1) := by k_get
theorem gl_357_tags {h0 h1 h2 h3 h4 : Int} {t0 t1 t2 t3 t4 : Tok} {v0 v1 v2 v3 v4 : Value} : getL (Str.ofString "tags") [⟨h0, .str (Str.ofString "kind") t0, v0⟩, ⟨h1, .str (Str.ofString "items") t1, v1⟩, ⟨h2, .str (Str.ofString "tags") t2, v2⟩, ⟨h3, .str (Str.ofString "attrs") t3, v3⟩, ⟨h4, .str (Str.ofString "code") t4, v4⟩] = some (some v2) := by k_get
theorem gl_357_attrs {h0 h1 h2 h3 h4 : Int} {t0 t1 t2 t3 t4 : Tok} {v0 v1 v2 v3 v4 : Value} : getL (Str.ofString "attrs") [⟨h0, .str (Str.ofString "kind") t0, v0⟩, ⟨h1, .str (Str.ofString "items") t1, v1⟩, ⟨h2, .str (Str.ofString "tags") t2, v2⟩, ⟨h3, .str (Str.ofString "attrs") t3, v3⟩, ⟨h4, .str (Str.ofString "code") t4, v4⟩] = some (some v3) := by k_get
theorem gl_357_code {h0 h1 h2 h3 h4 : Int} {t0 t1 t2 t3 t4 : Tok} {v0 v1 v2 v3 v4 : Value} : getL (Str.ofString "code") [⟨h0, .str (Str.ofString "kind") t0, v0⟩, ⟨h1, .str (Str.ofString "items") t1, v1⟩, ⟨h2, .str (Str.ofString "tags") t2, v2⟩, ⟨h3, .str (Str.ofString "attrs") t3, v3⟩, ⟨h4, .str (Str.ofString "code") t4, v4⟩] = some (some v4) := by k_get
theorem co_379 (P : Params) : CO P 379 := ⟨fun _ => by kernel_rfl!, by k_is, by k_is, by k_is⟩
theorem ao_379_kind (P : Params) : AO P 379 (Str.ofString "kind") := ⟨co_379 P, by k_is⟩
theorem tk_379_kind (P : Params) : takerIn (hd.heap_1 P) 379 (Str.ofString "kind") = some none := by k_is
theorem ao_379_formals (P : Params) : AO P 379 (Str.ofString "formals") := ⟨co_379 P, by k_is⟩
theorem tk_379_formals (P : Params) : takerIn (hd.heap_1 P) 379 (Str.ofString "formals") = some none := by k_is
theorem ao_379_body (P : Params) : AO P 379 (Str.ofString "body") := ⟨co_379 P, by k_is⟩
theorem tk_379_body (P : Params) : takerIn (hd.heap_1 P) 379 (Str.ofString "body") = some none := by k_is
theorem ao_379_env (P : Params) : AO P 379 (Str.ofString "env") := ⟨co_379 P, by k_is⟩
theorem tk_379_env (P : Params) : takerIn (hd.heap_1 P) 379 (Str.ofString "env") = some none := by k_is
theorem ao_379_attrs (P : Params) : AO P 379 (Str.ofString "attrs") := ⟨co_379 P, by k_is⟩
theorem tk_379_attrs (P : Params) : takerIn (hd.heap_1 P) 379 (Str.ofString "attrs") = some none := by k_is
theorem gl_379_kind {h0 h1 h2 h3 h4 : Int} {t0 t1 t2 t3 t4 : Tok} {v0 v1 v2 v3 v4 : Value} : getL (Str.ofString "kind") [⟨h0, .str (Str.ofString "kind") t0, v0⟩, ⟨h1, .str (Str.ofString "formals") t1, v1⟩, ⟨h2, .str (Str.ofString "body") t2, v2⟩, ⟨h3, .str (Str.ofString "env") t3, v3⟩, ⟨h4, .str (Str.ofString "attrs") t4, v4⟩] = some (some v0) := by k_get
theorem gl_379_formals {h0 h1 h2 h3 h4 : Int} {t0 t1 t2 t3 t4 : Tok} {v0 v1 v2 v3 v4 : Value} : getL (Str.ofString "formals") [⟨h0, .str (Str.ofString "kind") t0, v0⟩, ⟨h1, .str (Str.ofString "formals") t1, v1⟩, ⟨h2, .str (Str.ofString "body") t2, v2⟩, ⟨h3, .str (Str.ofString "env") t3, v3⟩, ⟨h4, .str (Str.ofString "attrs") t4, v4⟩] = some (some v1) := by k_get
theorem gl_379_body {h0 h1 h2 h3 h4 : Int} {t0 t1 t2 t3 t4 : Tok} {v0 v1 v2 v3 v4 : Value} : getL (Str.ofString "body") [⟨h0, .str (Str.ofString "kind") t0, v0⟩, ⟨h1, .str (Str.ofString "formals") t1, v1⟩, ⟨h2, .str (Str.ofString "body") t2, v2⟩, ⟨h3, .str (Str.ofString "env") t3, v3⟩, ⟨h4, .str (Str.ofString "attrs") t4, v4⟩] = some (some v2) := by k_get
theorem gl_379_env {h0 h1 h2 h3 h4 : Int} {t0 t1 t2 t3 t4 : Tok} {v0 v1 v2 v3 v4 : Value} : getL (Str.ofString "env") [⟨h0, .str (Str.ofString "kind") t0, v0⟩, ⟨h1, .str (Str.ofString "formals") t1, v1⟩, ⟨h2, .str (Str.ofString "body") t2, v2⟩, ⟨h3, .str (Str.ofString "env") t3, v3⟩, ⟨h4, .str (Str.ofString "attrs") t4, v4⟩] = some (some v3) := by k_get
theorem gl_379_attrs {h0 h1 h2 h3 h4 : Int} {t0 t1 t2 t3 t4 : Tok} {v0 v1 v2 v3 v4 : Value} : getL (Str.ofString "attrs") [⟨h0, .str (Str.ofString "kind") t0, v0⟩, ⟨h1, .str (Str.ofString "formals") t1, v1⟩, ⟨h2, .str (Str.ofString "body") t2, v2⟩, ⟨h3, .str (Str.ofString "env") t3, v3⟩, ⟨h4, .str (Str.ofString "attrs") t4, v4⟩] = some (some v4) := by k_get
theorem co_401 (P : Params) : CO P 401 := ⟨fun _ => by kernel_rfl!, by k_is, by k_is, by k_is⟩
theorem ao_401_kind (P : Params) : AO P 401 (Str.ofString "kind") := ⟨co_401 P, by k_is⟩
theorem tk_401_kind (P : Params) : takerIn (hd.heap_1 P) 401 (Str.ofString "kind") = some none := by k_is
theorem ao_401_number (P : Params) : AO P 401 (Str.ofString "number") := ⟨co_401 P, by k_is⟩
theorem tk_401_number (P : Params) : takerIn (hd.heap_1 P) 401 (Str.ofString "number") = some none := by k_is
theorem ao_401_parent (P : Params) : AO P 401 (Str.ofString "parent") := ⟨co_401 P, by k_is⟩
theorem tk_401_parent (P : Params) : takerIn (hd.heap_1 P) 401 (Str.ofString "parent") = some none := by k_is
theorem ao_401_attrs (P : Params) : AO P 401 (Str.ofString "attrs") := ⟨co_401 P, by k_is⟩
theorem tk_401_attrs (P : Params) : takerIn (hd.heap_1 P) 401 (Str.ofString "attrs") = some none := by k_is
theorem ao_401_frame (P : Params) : AO P 401 (Str.ofString "frame") := ⟨co_401 P, by k_is⟩
theorem tk_401_frame (P : Params) : takerIn (hd.heap_1 P) 401 (Str.ofString "frame") = some none := by k_is
theorem ao_401_locked (P : Params) : AO P 401 (Str.ofString "locked") := ⟨co_401 P, by k_is⟩
theorem tk_401_locked (P : Params) : takerIn (hd.heap_1 P) 401 (Str.ofString "locked") = some none := by k_is
theorem ao_401_locks (P : Params) : AO P 401 (Str.ofString "locks") := ⟨co_401 P, by k_is⟩
theorem tk_401_locks (P : Params) : takerIn (hd.heap_1 P) 401 (Str.ofString "locks") = some none := by k_is
theorem gl_401_kind {h0 h1 h2 h3 h4 h5 h6 : Int} {t0 t1 t2 t3 t4 t5 t6 : Tok} {v0 v1 v2 v3 v4 v5 v6 : Value} : getL (Str.ofString "kind") [⟨h0, .str (Str.ofString "kind") t0, v0⟩, ⟨h1, .str (Str.ofString "number") t1, v1⟩, ⟨h2, .str (Str.ofString "parent") t2, v2⟩, ⟨h3, .str (Str.ofString "attrs") t3, v3⟩, ⟨h4, .str (Str.ofString "frame") t4, v4⟩, ⟨h5, .str (Str.ofString "locked") t5, v5⟩, ⟨h6, .str (Str.ofString "locks") t6, v6⟩] = some (some v0) := by k_get
theorem gl_401_number {h0 h1 h2 h3 h4 h5 h6 : Int} {t0 t1 t2 t3 t4 t5 t6 : Tok} {v0 v1 v2 v3 v4 v5 v6 : Value} : getL (Str.ofString "number") [⟨h0, .str (Str.ofString "kind") t0, v0⟩, ⟨h1, .str (Str.ofString "number") t1, v1⟩, ⟨h2, .str (Str.ofString "parent") t2, v2⟩, ⟨h3, .str (Str.ofString "attrs") t3, v3⟩, ⟨h4, .str (Str.ofString "frame") t4, v4⟩, ⟨h5, .str (Str.ofString "locked") t5, v5⟩, ⟨h6, .str (Str.ofString "locks") t6, v6⟩] = some (some v1) := by k_get
theorem gl_401_parent {h0 h1 h2 h3 h4 h5 h6 : Int} {t0 t1 t2 t3 t4 t5 t6 : Tok} {v0 v1 v2 v3 v4 v5 v6 : Value} : getL (Str.ofString "parent") [⟨h0, .str (Str.ofString "kind") t0, v0⟩, ⟨h1, .str (Str.ofString "number") t1, v1⟩, ⟨h2, .str (Str.ofString "parent") t2, v2⟩, ⟨h3, .str (Str.ofString "attrs") t3, v3⟩, ⟨h4, .str (Str.ofString "frame") t4, v4⟩, ⟨h5, .str (Str.ofString "locked") t5, v5⟩, ⟨h6, .str (Str.ofString "locks") t6, v6⟩] = some (some v2) := by k_get
theorem gl_401_attrs {h0 h1 h2 h3 h4 h5 h6 : Int} {t0 t1 t2 t3 t4 t5 t6 : Tok} {v0 v1 v2 v3 v4 v5 v6 : Value} : getL (Str.ofString "attrs") [⟨h0, .str (Str.ofString "kind") t0, v0⟩, ⟨h1, .str (Str.ofString "number") t1, v1⟩, ⟨h2, .str (Str.ofString "parent") t2, v2⟩, ⟨h3, .str (Str.ofString "attrs") t3, v3⟩, ⟨h4, .str (Str.ofString "frame") t4, v4⟩, ⟨h5, .str (Str.ofString "locked") t5, v5⟩, ⟨h6, .str (Str.ofString "locks") t6, v6⟩] = some (some v3) := by k_get
theorem gl_401_frame {h0 h1 h2 h3 h4 h5 h6 : Int} {t0 t1 t2 t3 t4 t5 t6 : Tok} {v0 v1 v2 v3 v4 v5 v6 : Value} : getL (Str.ofString "frame") [⟨h0, .str (Str.ofString "kind") t0, v0⟩, ⟨h1, .str (Str.ofString "number") t1, v1⟩, ⟨h2, .str (Str.ofString "parent") t2, v2⟩, ⟨h3, .str (Str.ofString "attrs") t3, v3⟩, ⟨h4, .str (Str.ofString "frame") t4, v4⟩, ⟨h5, .str (Str.ofString "locked") t5, v5⟩, ⟨h6, .str (Str.ofString "locks") t6, v6⟩] = some (some v4) := by k_get
theorem gl_401_locked {h0 h1 h2 h3 h4 h5 h6 : Int} {t0 t1 t2 t3 t4 t5 t6 : Tok} {v0 v1 v2 v3 v4 v5 v6 : Value} : getL (Str.ofString "locked") [⟨h0, .str (Str.ofString "kind") t0, v0⟩, ⟨h1, .str (Str.ofString "number") t1, v1⟩, ⟨h2, .str (Str.ofString "parent") t2, v2⟩, ⟨h3, .str (Str.ofString "attrs") t3, v3⟩, ⟨h4, .str (Str.ofString "frame") t4, v4⟩, ⟨h5, .str (Str.ofString "locked") t5, v5⟩, ⟨h6, .str (Str.ofString "locks") t6, v6⟩] = some (some v5) := by k_get
theorem gl_401_locks {h0 h1 h2 h3 h4 h5 h6 : Int} {t0 t1 t2 t3 t4 t5 t6 : Tok} {v0 v1 v2 v3 v4 v5 v6 : Value} : getL (Str.ofString "locks") [⟨h0, .str (Str.ofString "kind") t0, v0⟩, ⟨h1, .str (Str.ofString "number") t1, v1⟩, ⟨h2, .str (Str.ofString "parent") t2, v2⟩, ⟨h3, .str (Str.ofString "attrs") t3, v3⟩, ⟨h4, .str (Str.ofString "frame") t4, v4⟩, ⟨h5, .str (Str.ofString "locked") t5, v5⟩, ⟨h6, .str (Str.ofString "locks") t6, v6⟩] = some (some v6) := by k_get
section
variable {w : World} {mg mb : Str → Option Value} {means : ExcName → Option Value} {C fI : Addr} {vals : List Value} {dd uu : Nat} {news : List (Addr × Obj)} {Ok : Value → List (Addr × Obj) → Prop}
theorem under_make (dp un : Nat) (gd : Option (List Code)) (cn : Str) (cs : Scope) (L a : Addr) (ccd : Value) (cl : List (Str × Addr)) (outer : List Env) :
    (ktrTop dp un gd cn cs L a ccd cl outer).under (.builtin "type.__call__" ⟨.ref C :: vals, []⟩) = ktrTop (dp + 1) (un + 1) gd cn cs L a ccd cl outer := rfl
theorem ct_cls {name qual : Str} {params : Arguments} {body : List Stmt} {scope : Scope} {dV kV doc pm cdv ct oc : Value} {an od : Option Addr} {osl : Array (Option Value)} (ns gs : List Str) (args : List Value) (vs : Addr → List (Option Value))
    (hm : makesIn (hd.heap_1 w.params) C = true) (hi : findIn (hd.heap_1 w.params) (.ref C) "__init__" = some (some (.ref fI))) (hf : isFn (hd.heap_1 w.params) (.ref fI) = true)
    (ho : (hd.heap_1 w.params).lookup fI = some ⟨oc, od, .func (fnOf name qual params body scope dV kV doc pm an cdv ct), osl⟩) (hcd : codeIn (hd.heap_1 w.params) cdv qual = true) (hN : namesOk scope ns gs = true)
    (hbind : ∀ x s, (hd.heap_1 w.params).In s.heap → BindsTo s (fnOf name qual params body scope dV kV doc pm an cdv ct) ⟨.ref x :: vals, []⟩ (ns.zip (.ref x :: args)))
    (hlv : (∀ (i : Nat) (x : Str), ns[i]? = some x → ns.idxOf? x = some i) → ∀ x : Addr, (fun y => (ns.zip (Value.ref x :: args)).reverse.lookup y) = lv ns (vs x))
    (hco : scope.isCoroutine = false) (hgen : scope.isGenerator = false) (hcell : ∀ x ∈ scope.names, x.2 ≠ .cell)
    (walk : (∀ (i : Nat) (x : Str), ns[i]? = some x → Loc scope ns x i) → (∀ (i : Nat) (x : Str), gs[i]? = some x → Glo scope x) →
      ∀ (x dx : Addr), (∀ p ∈ news, p.1 < dx) → @LT.lt Nat _ dx x →
      ∀ (dp un : Nat) (gd : Option (List Code)) (outer : List Env) (A₀ : Around) (base g : Heap) (L : Addr) (h : Heap) (gs : Array GenState) (d : Drawn) (t : Nat) (os : OsState), Below A₀ base outer g → Fr g L h (lv ns (vs x)) → (hd.heap_1 w.params).In g → News g L h ((x, instObj C dx) :: (dx, dictOf [] 0) :: news) →
      Top hd.view_39 (looseW hd.view_39 [Str.ofString "number_text"]) means mg mb g → dp + dd < recursionLimit → un + uu < cLine →
      wpAny (model PySem.Challenge.rw_nz0498_01.row.prog w) (ktrTop dp un gd qual scope L fI cdv [] outer) (execs body (envOf qual scope L fI cdv)) (fun fl s' => Lv g (fun v l => v = .none ∧ Ok (.ref x) l) gs d os (match fl with | .ret v => v | _ => .none) s') (fun _ _ => False) ⟨h, gs, d, t, os⟩) :
    Ct w mg mb means C vals (dd + 2) (uu + 4) news Ok := by
  unfold Ct CtB
  intro dp un gd cn cs a ccd cl outer A₀ base h₀ L m h g d t os Q E B F X N T _ hke hdp hun ret
  have hk : scope.kind = .function := by
    have := hN
    unfold namesOk at this
    simp only [Bool.and_eq_true] at this
    have h1 := this.1.1
    revert h1; cases scope.kind <;> simp <;> decide
  refine call_cls (s := ⟨h, g, d, t, os⟩) F X N hm hi hf fun x dx h' F' N' l1 l2 => ?_
  rw [under_make]
  refine code_def (s := ⟨h', g, d, t, os⟩) (env := envX cn cs L a ccd cl) (outer := outer) (A₀ := A₀) B F' X N' T rfl rfl hke ho hcd (by show dp + 1 < _; omega) (hbind x _ (X.keeps F'.keep)) (fun y hy => ?_) (fun g' L' h₁ FG F' N' B' X' T' => ?_) hco hgen hk hcell
  · obtain ⟨i, hi⟩ := List.getElem?_of_mem (List.of_mem_zip (a := y.1) (b := y.2) hy).1
    exact (names_loc hN i _ hi).name
  rw [hlv (fun i x hx => (names_loc hN i x hx).hI)] at F'
  refine wpAny_mono (walk (names_loc hN) (names_glo hN) x dx l1 l2 (dp + 1 + 1) (un + 1 + 3) gd (envX cn cs L a ccd cl :: outer) (ktrTop (dp + 1) (un + 1) gd cn cs L a ccd cl outer) base g' L' h₁ g d _ os ⟨B'.stack, B'.stays, B'.frames⟩ F' X' N' T' (by omega) (by omega)) (fun fl s' hl => ?_) fun _ _ e => e.elim
  obtain ⟨L'', m'', news', h'', tk', rfl, F'', N'', hv, ok⟩ := hl
  exact ⟨L'', m'', news', F'', N'', fun F₃ N₃ => ⟨hv, ret _ news' h'' tk' ok F₃ N₃⟩⟩
end
inductive AI where
  | lit (k : Int) | sym (i : Nat) | nz (i : Nat) | one (l : List Int)
inductive AS where
  | lit (l : List Nat) | num (l : List Nat) (i : Nat)
inductive AV where
  | none | bool (b : Bool) | int (a : AI) | str (s : AS) | obj (i : Nat) | opq (i : Nat)
inductive Ob where
  | list (xs : List AV) | tup (xs : List AV) | dict (es : List (List Nat × AV)) | inst (c : Nat) (fs : List (Nat × AV)) | exc (m : AV) | cau (m : AV) | gone | state
inductive Op where
  | eq | ne | lt | gt | is | isnt | isin | notin
structure St where
  loc : List (Option AV)
  cv : AV
  objs : List (Nat × Ob)
  nx : Nat
noncomputable def at? {α : Type} : List α → Nat → Option α
  | [], _ => Option.none
  | x :: _, 0 => some x
  | _ :: r, n + 1 => at? r n
noncomputable def St.get (s : St) (i : Nat) : Option AV := match at? s.loc i with
  | some o => o
  | Option.none => Option.none
noncomputable def setL (v : AV) : List (Option AV) → Nat → List (Option AV)
  | [], _ => []
  | _ :: r, 0 => some v :: r
  | x :: r, n + 1 => x :: setL v r n
noncomputable def look {α : Type} (i : Nat) : List (Nat × α) → Option α
  | [] => Option.none
  | (j, o) :: r => match Nat.beq i j with | true => some o | false => look i r
noncomputable def upd {α : Type} (i : Nat) (o : α) : List (Nat × α) → List (Nat × α)
  | [] => []
  | (j, o') :: r => match Nat.beq i j with | true => (j, o) :: r | false => (j, o') :: upd i o r
noncomputable def putF (i : Nat) (v : AV) : List (Nat × AV) → List (Nat × AV)
  | [] => [(i, v)]
  | (j, o') :: r => match Nat.beq i j with | true => (j, v) :: r | false => (j, o') :: putF i v r
noncomputable def strEq : List Nat → List Nat → Bool
  | [], [] => true
  | a :: r, b :: q => match Nat.beq a b with | true => strEq r q | false => false
  | _, _ => false
noncomputable def lookS {α : Type} (i : List Nat) : List (List Nat × α) → Option α
  | [] => Option.none
  | (j, o) :: r => match strEq i j with | true => some o | false => lookS i r
noncomputable def putS (i : List Nat) (v : AV) : List (List Nat × AV) → List (List Nat × AV)
  | [] => [(i, v)]
  | (j, o') :: r => match strEq i j with | true => (j, v) :: r | false => (j, o') :: putS i v r
noncomputable def asNe : List Nat → List Nat → Option Bool
  | c :: _, d :: _ => match Nat.beq c d with | false => some false | true => Option.none
  | _ :: _, [] => some false
  | _, _ => Option.none
noncomputable def asEq : AS → AS → Option Bool
  | .lit a, .lit b => some (strEq a b)
  | .num a i, .num b j => match Nat.beq i j with | true => (match strEq a b with | true => some true | false => Option.none) | false => Option.none
  | .num a _, .lit b => asNe a b
  | .lit b, .num a _ => asNe a b
noncomputable def intEqB (a b : Int) : Bool := match a, b with
  | .ofNat m, .ofNat n => Nat.beq m n
  | .negSucc m, .negSucc n => Nat.beq m n
  | _, _ => false
noncomputable def intLtB (a b : Int) : Bool := match a, b with
  | .ofNat m, .ofNat n => Nat.blt m n
  | .ofNat _, .negSucc _ => false
  | .negSucc _, .ofNat _ => true
  | .negSucc m, .negSucc n => Nat.blt n m
noncomputable def agree : Option Bool → Bool → Option Bool
  | some true, true => some true
  | some false, false => some false
  | _, _ => Option.none
noncomputable def allSame (f : Int → Bool) : List Int → Option Bool
  | [] => Option.none
  | [a] => some (f a)
  | a :: b :: r => agree (allSame f (b :: r)) (f a)
noncomputable def aiEq : AI → AI → Option Bool
  | .lit a, .lit b => some (intEqB a b)
  | .sym i, .sym j => match Nat.beq i j with | true => some true | false => Option.none
  | .nz i, .nz j => match Nat.beq i j with | true => some true | false => Option.none
  | .nz _, .lit a => match intEqB a 0 with | true => some false | false => Option.none
  | .one l, .lit b => allSame (fun a => intEqB a b) l
  | _, _ => Option.none
noncomputable def aiLt : AI → AI → Option Bool
  | .lit a, .lit b => some (intLtB a b)
  | .one l, .lit b => allSame (fun a => intLtB a b) l
  | _, _ => Option.none
noncomputable def avItem : AV → AV → Option Bool
  | .none, .none => some true
  | .int a, .int b => aiEq a b
  | .str a, .str b => asEq a b
  | .obj i, .obj j => match Nat.beq i j with | true => some true | false => Option.none
  | .opq i, .opq j => match Nat.beq i j with | true => some true | false => Option.none
  | _, _ => Option.none
noncomputable def andO : Option Bool → Option Bool → Option Bool
  | some true, some true => some true
  | some _, some _ => some false
  | _, _ => Option.none
noncomputable def avItems : List AV → List AV → Option Bool
  | [], [] => some true
  | x :: xs, y :: ys => andO (avItem x y) (avItems xs ys)
  | _, _ => Option.none
noncomputable def sameLen : List AV → List AV → Bool
  | [], [] => true
  | _ :: xs, _ :: ys => sameLen xs ys
  | _, _ => false
noncomputable def obEq : Ob → Ob → Option Bool
  | .list xs, .list ys => match sameLen xs ys with | true => avItems xs ys | false => some false
  | .tup xs, .tup ys => avItems xs ys
  | _, _ => Option.none
noncomputable def isTupO : Ob → Option Bool
  | .tup _ => some false
  | _ => Option.none
noncomputable def eqObj (objs : List (Nat × Ob)) (i j : Nat) : Option Bool := match look i objs with
  | some o => match look j objs with | some p => obEq o p | Option.none => Option.none
  | Option.none => Option.none
noncomputable def tupObj (objs : List (Nat × Ob)) (j : Nat) : Option Bool := match look j objs with
  | some o => isTupO o
  | Option.none => Option.none
noncomputable def boolEq : Bool → Bool → Bool
  | true, true => true
  | false, false => true
  | _, _ => false
noncomputable def avEq (objs : List (Nat × Ob)) : AV → AV → Option Bool
  | .bool a, .bool b => some (boolEq a b)
  | .int a, .int b => aiEq a b
  | .str a, .str b => asEq a b
  | .obj i, .obj j => eqObj objs i j
  | .int _, .obj j => tupObj objs j
  | .str _, .obj j => tupObj objs j
  | _, _ => Option.none
noncomputable def orO : Option Bool → Option Bool → Option Bool
  | some false, some false => some false
  | some _, some _ => some true
  | _, _ => Option.none
noncomputable def asOf (s : AS) : AV → Option Bool
  | .str t => asEq t s
  | _ => Option.none
noncomputable def avInN (s : AS) : List AV → Option Bool
  | [] => some false
  | v :: r => orO (asOf s v) (avInN s r)
noncomputable def inObj (objs : List (Nat × Ob)) (x : AS) (j : Nat) : Option Bool := match look j objs with
  | some (.tup xs) => avInN x xs
  | some (.list xs) => avInN x xs
  | _ => Option.none
noncomputable def avIn (objs : List (Nat × Ob)) : AV → AV → Option Bool
  | .str x, .obj j => inObj objs x j
  | _, _ => Option.none
noncomputable def avLt : AV → AV → Option Bool
  | .int a, .int b => aiLt a b
  | _, _ => Option.none
noncomputable def avIs : AV → AV → Option Bool
  | .none, .none => some true
  | .bool _, .none => some false
  | .int _, .none => some false
  | .str _, .none => some false
  | .obj _, .none => some false
  | _, _ => Option.none
noncomputable def bnot : Option Bool → Option Bool
  | some true => some false
  | some false => some true
  | Option.none => Option.none
noncomputable def compare (op : Op) (a b : AV) (s : St) : Option Bool := match op with
  | .eq => avEq s.objs a b
  | .ne => bnot (avEq s.objs a b)
  | .lt => avLt a b
  | .gt => avLt b a
  | .is => avIs a b
  | .isnt => bnot (avIs a b)
  | .isin => avIn s.objs a b
  | .notin => bnot (avIn s.objs a b)
noncomputable abbrev KV := AV → St → Bool
noncomputable abbrev KL := List AV → St → Bool
noncomputable abbrev KS := St → Bool
noncomputable abbrev Sx := St → KV → KV → Bool
noncomputable abbrev Sb := St → KS → KV → KV → Bool
noncomputable def small : List AV → Nat → Bool
  | [], _ => true
  | _ :: _, 0 => false
  | _ :: r, n + 1 => small r n
noncomputable def fits : Ob → Bool
  | .list xs => small xs 40
  | .tup xs => small xs 40
  | _ => true
noncomputable def put (o : Ob) (s : St) : St := ⟨s.loc, s.cv, (s.nx, o) :: s.objs, s.nx.succ⟩
noncomputable def alloc (o : Ob) (s : St) (k : KV) : Bool := match fits o with
  | true => k (.obj s.nx) (put o s)
  | false => false
noncomputable def evs : List Sx → St → KL → KV → Bool
  | [], s, k, _ => k [] s
  | x :: r, s, k, kr => x s (fun v s => evs r s (fun vs s => k (v :: vs) s) kr) kr
noncomputable def ifB (v : AV) (a b : Bool) : Bool := match v with
  | .bool true => a
  | .bool false => b
  | _ => false
noncomputable def ands : List Sx → Sx
  | [], _, _, _ => false
  | [x], s, k, kr => x s k kr
  | x :: r, s, k, kr => x s (fun v s => ifB v (ands r s k kr) (k v s)) kr
noncomputable def ors : List Sx → Sx
  | [], _, _, _ => false
  | [x], s, k, kr => x s k kr
  | x :: r, s, k, kr => x s (fun v s => ifB v (k v s) (ors r s k kr)) kr
noncomputable def setCv (v : AV) (s : St) : St := ⟨s.loc, v, s.objs, s.nx⟩
noncomputable def noR : KV := fun _ _ => false
noncomputable def orElse (o : Option AV) (b : Bool) (f : AV → Bool) : Bool := match o with | some v => f v | Option.none => b
noncomputable def onObj (v : AV) (s : St) (f : Ob → Bool) : Bool := match v with
  | .obj i => match look i s.objs with | some o => f o | Option.none => false
  | _ => false
noncomputable def onList (v : AV) (s : St) (f : List AV → Bool) : Bool := onObj v s fun o => match o with | .list xs => f xs | _ => false
noncomputable def comps (x : Sx) (w : AV) : Nat → Nat → List AV → St → KV → KV → Bool
  | 0, _, _, _, _, _ => false
  | n + 1, j, acc, s, k, kr => onList w s fun xs => orElse (at? xs j) (alloc (.list acc.reverse) s k) fun v => x (setCv v s) (fun y s => comps x w n j.succ (y :: acc) s k kr) kr
noncomputable def compsR (x : Sx) : Nat → Nat → List AV → St → KV → Bool
  | 0, _, acc, s, k => alloc (.list acc.reverse) s k
  | n + 1, j, acc, s, k => x (setCv (.int (.lit (Int.ofNat j))) s) (fun y s => compsR x n j.succ (y :: acc) s k) noR
noncomputable def setLoc (i : Nat) (v : AV) (s : St) : St := ⟨setL v s.loc i, s.cv, s.objs, s.nx⟩
noncomputable def setObjs (o : List (Nat × Ob)) (s : St) : St := ⟨s.loc, s.cv, o, s.nx⟩
noncomputable def loops (i : Nat) (body : Sb) (w : AV) : Nat → Nat → St → KS → KV → Bool
  | 0, _, _, _, _ => false
  | n + 1, j, s, k, kret => onList w s fun xs => orElse (at? xs j) (k s) fun v => body (setLoc i v s) (fun s => loops i body w n j.succ s k kret) kret noR
noncomputable def loopsR (i : Nat) (body : Sb) : Nat → Nat → St → KS → KV → Bool
  | 0, _, s, k, _ => k s
  | n + 1, j, s, k, kret => body (setLoc i (.int (.lit (Int.ofNat j))) s) (fun s => loopsR i body n j.succ s k kret) kret noR
noncomputable def cases (f : AI → Bool) : List AI → Bool
  | [] => true
  | a :: r => match f a with | true => cases f r | false => false
noncomputable def parts (b : Nat) : List AI := match b with
  | 2 => [.lit 0, .lit 1]
  | 4 => [.lit 0, .lit 1, .lit 2, .lit 3]
  | 5 => [.one [0, 1], .lit 2, .lit 3, .lit 4]
  | 8 => [.lit 0, .lit 1, .lit 2, .lit 3, .lit 4, .lit 5, .lit 6, .lit 7]
  | 9 => [.one [0, 1, 2], .lit 3, .lit 4, .lit 5, .lit 6, .lit 7, .lit 8]
  | 13 => [.lit 0, .lit 1, .lit 2, .lit 3, .lit 4, .lit 5, .lit 6, .lit 7, .lit 8, .lit 9, .lit 10, .lit 11, .lit 12]
  | _ => []
noncomputable def zeroNow (s : St) : Bool := match s.loc with
  | [_, _, some (.int (.one _))] => true
  | _ => false
noncomputable def take (b : Int) (s : St) (k : KV) : Bool := match b with
  | .ofNat 660 => match zeroNow s with
    | false => k (.int (.sym s.nx)) ⟨s.loc, s.cv, s.objs, s.nx.succ⟩
    | true => match k (.int (.lit 0)) s with
      | false => false
      | true => k (.int (.nz s.nx)) ⟨s.loc, s.cv, s.objs, s.nx.succ⟩
  | .ofNat 3 => match s.loc.length with
    | 2 => cases (fun a => k (.int a) s) [.one [0, 2], .lit 1]
    | _ => cases (fun a => k (.int a) s) [.lit 0, .lit 1, .lit 2]
  | .ofNat n => match parts n with | [] => false | l => cases (fun a => k (.int a) s) l
  | _ => false
noncomputable def casesV (f : AV → Bool) : List AV → Bool
  | [] => true
  | a :: r => match f a with | true => casesV f r | false => false
noncomputable def casesP (f : Int → Int → Bool) : List (Int × Int) → Bool
  | [] => true
  | (a, b) :: r => match f a b with | true => casesP f r | false => false
noncomputable def words : List (List Nat) := [[84, 82, 85, 69], [70], [102, 97, 108, 115, 101], [84, 114, 117, 101], [84], [116, 114, 117, 101], [70, 65, 76, 83, 69], [121, 101, 115], [], [116], [78, 65], [49], [70, 97, 108, 115, 101]]
noncomputable def item (strong : Bool) (kind : List Nat) (s : St) (k : KV) : Bool := match strong with
  | false => k (.opq s.nx) ⟨s.loc, s.cv, s.objs, s.nx.succ⟩
  | true => match k .none s with
    | false => false
    | true => match kind with
      | 108 :: _ => casesV (fun v => k v s) [.int (.lit 0), .int (.lit 1)]
      | 105 :: _ => match k (.int (.lit 0)) s with
        | false => false
        | true => k (.int (.nz s.nx)) ⟨s.loc, s.cv, s.objs, s.nx.succ⟩
      | 100 :: _ => casesP (fun a b => alloc (.tup [.int (.lit a), .int (.lit b)]) s k) [(1, 2), (0, 1), (0, 0), (1, 0), (-1, 0), (-3, 1), (7, 1000000000)]
      | 99 :: _ => casesV (fun v => k v s) (words.map fun w => .str (.lit w))
      | _ => false
noncomputable def strongNow (s : St) : Bool := match s.get 2 with
  | some (.int (.lit (.ofNat n))) => Nat.ble n 1
  | _ => false
noncomputable def sameAI : AV → AV → Bool
  | .int (.lit x), .int (.lit y) => intEqB x y
  | _, _ => false
noncomputable def sames : List AV → Option AV
  | [] => Option.none
  | [a] => some a
  | a :: b :: r => match sames (b :: r) with
    | some c => match sameAI a c with | true => some a | false => Option.none
    | Option.none => Option.none
noncomputable def nth (xs : List AV) (i : Int) : Option AV := match i with | .ofNat n => at? xs n | _ => Option.none
noncomputable def nths (xs : List AV) : List Int → Option (List AV)
  | [] => some []
  | i :: r => match nth xs i, nths xs r with | some v, some l => some (v :: l) | _, _ => Option.none
noncomputable def seqOf : Ob → Option (List AV)
  | .list xs => some xs
  | .tup xs => some xs
  | _ => Option.none
noncomputable def pick (xs : List AV) : AV → Option AV
  | .int (.lit n) => nth xs n
  | .int (.one l) => match nths xs l with | some vs => sames vs | Option.none => Option.none
  | _ => Option.none
noncomputable def instF (c : Nat) (vs : List AV) : Option (List (Nat × AV) × Bool) := match c, vs with
  | 285, [] => some ([(0, .str (.lit [78, 85, 76, 76])), (2, .none)], false)
  | 314, [k, l] => some ([(0, k), (1, l), (2, .none), (3, .bool false), (4, .bool false)], false)
  | 335, [n] => some ([(0, .str (.lit [115, 121, 109, 98, 111, 108])), (5, n), (2, .none)], false)
  | 357, [l, t] => some ([(0, .str (.lit [108, 97, 110, 103, 117, 97, 103, 101])), (1, l), (6, t), (2, .none), (7, .none)], false)
  | 379, [f, b, e] => some ([(0, .str (.lit [99, 108, 111, 115, 117, 114, 101])), (8, f), (9, b), (10, e), (2, .none)], false)
  | 401, [n, p] => some ([(0, .str (.lit [101, 110, 118, 105, 114, 111, 110, 109, 101, 110, 116])), (11, n), (12, p), (2, .none)], true)
  | _, _ => Option.none
noncomputable def fresh (f : Nat → AV) (s : St) (k : KV) : Bool := k (f s.nx) ⟨s.loc, s.cv, s.objs, s.nx.succ⟩
noncomputable def mkExc (vs : List AV) (s : St) (k : KV) : Bool := match vs with
  | [m] => alloc (.exc m) s k
  | _ => false
noncomputable def mkInst (c : Nat) (vs : List AV) (s : St) (k : KV) : Bool := match instF c vs with
  | some (fs, false) => alloc (.inst c fs) s k
  | some (fs, true) => alloc (.dict []) s fun d s => fresh .opq s fun l s => alloc (.inst c (fs ++ [(13, d), (14, .bool false), (15, l)])) s k
  | Option.none => false
noncomputable def make (c : Nat) (vs : List AV) (s : St) (k : KV) : Bool := match Nat.beq c 75 with
  | true => mkExc vs s k
  | false => mkInst c vs s k
noncomputable def short (l : List Nat) : Bool := Nat.ble l.length 1000
noncomputable def ifSome {α : Type} (b : Bool) (x : α) : Option α := match b with
  | true => some x
  | false => Option.none
noncomputable def strAdd : AS → AS → Option AS
  | .lit a, .lit b => ifSome (short (a ++ b)) (.lit (a ++ b))
  | .lit a, .num b i => ifSome (short (a ++ b)) (.num (a ++ b) i)
  | _, _ => Option.none
noncomputable def smallI (l : List Int) : Bool := match l with
  | [] => true
  | x :: r => match intLtB x 1000 with | true => (match intLtB (-1000) x with | true => smallI r | false => false) | false => false
noncomputable def addI (x y : AI) (s : St) (k : KV) : Bool := match x, y with
  | .lit x, .lit y => k (.int (.lit (x + y))) s
  | .lit x, .one l => match smallI (x :: l) with | true => fresh (fun i => .int (.sym i)) s k | false => false
  | _, _ => false
noncomputable def addL (o p : Ob) (s : St) (k : KV) : Bool := match o, p with
  | .list xs, .list ys => alloc (.list (xs ++ ys)) s k
  | _, _ => false
noncomputable def onO {α : Type} (o : Option α) (f : α → Bool) : Bool := match o with | some a => f a | Option.none => false
noncomputable def addOf (a b : AV) (s : St) (k : KV) : Bool := match a, b with
  | .str x, .str y => onO (strAdd x y) fun z => k (.str z) s
  | .int x, .int y => addI x y s k
  | .obj i, .obj j => onObj (.obj i) s fun o => onObj (.obj j) s fun p => addL o p s k
  | _, _ => false
noncomputable def mulL (xs : List AV) (n : Nat) (s : St) (k : KV) : Bool := match xs, n with
  | [v], 1 => alloc (.list [v]) s k
  | [v], 2 => alloc (.list [v, v]) s k
  | _, _ => false
noncomputable def onN (v : AV) (f : Nat → Bool) : Bool := match v with | .int (.lit (.ofNat n)) => f n | _ => false
noncomputable def mulOf (a b : AV) (s : St) (k : KV) : Bool := onList a s fun xs => onN b fun n => mulL xs n s k
noncomputable def lenOf : Ob → Option Nat
  | .list xs => some xs.length
  | .dict es => some es.length
  | _ => Option.none
noncomputable def strOf : AV → Option AS
  | .int (.sym i) => some (.num [] i)
  | .int (.nz i) => some (.num [] i)
  | .int (.lit (.ofNat 0)) => some (.lit [48])
  | .str x => some x
  | _ => Option.none
noncomputable def joinOf : List AV → Option (List Nat)
  | [] => some []
  | .str (.lit a) :: r => match joinOf r with | some b => some (a ++ b) | Option.none => Option.none
  | _ => Option.none
noncomputable def isBool : AV → Option Bool
  | .bool _ => some true
  | .str _ => some false
  | _ => Option.none
noncomputable def onB (o : Option Bool) (s : St) (k : KV) : Bool := match o with | some b => k (.bool b) s | Option.none => false
noncomputable def nones : Nat → List (Option AV)
  | 0 => []
  | n + 1 => Option.none :: nones n
noncomputable def padL : List AV → Nat → List (Option AV)
  | [], n => nones n
  | v :: r, n => some v :: padL r n.pred
noncomputable def back (s s' : St) : St := ⟨s.loc, s.cv, s'.objs, s'.nx⟩
noncomputable def onDict (v : AV) (s : St) (f : List (List Nat × AV) → Bool) : Bool := onObj v s fun o => match o with | .dict xs => f xs | _ => false
noncomputable def onInst (v : AV) (s : St) (f : Nat → List (Nat × AV) → Bool) : Bool := onObj v s fun o => match o with | .inst c fs => f c fs | _ => false
noncomputable def onS (v : AV) (f : List Nat → Bool) : Bool := match v with | .str (.lit n) => f n | _ => false
noncomputable def onI (v : AV) (f : Nat → Bool) : Bool := match v with | .obj n => f n | _ => false
noncomputable def smallD : List (List Nat × AV) → Nat → Bool
  | [], _ => true
  | _ :: _, 0 => false
  | _ :: r, n + 1 => smallD r n
noncomputable def ifO (b c : Bool) : Bool := match b with | true => c | false => false
noncomputable def xBad : Sx := fun _ _ _ => false
noncomputable def xCv : Sx := fun s k _ => k s.cv s
noncomputable def xNone : Sx := fun s k _ => k .none s
noncomputable def xLoc (i : Nat) : Sx := fun s k _ => onO (s.get i) fun v => k v s
noncomputable def xInt (n : Int) : Sx := fun s k _ => k (.int (.lit n)) s
noncomputable def xStr (l : List Nat) : Sx := fun s k _ => k (.str (.lit l)) s
noncomputable def xBool (b : Bool) : Sx := fun s k _ => k (.bool b) s
noncomputable def noOpq (v : AV) (b : Bool) : Bool := match v with | .opq _ => false | _ => b
noncomputable def xAttr (x : Sx) (a : Nat) : Sx := fun s k kr => x s (fun v s => onInst v s fun _ fs => onO (look a fs) fun v => noOpq v (k v s)) kr
noncomputable def onState (v : AV) (s : St) (b : Bool) : Bool := onObj v s fun o => match o with | .state => b | _ => false
noncomputable def takeB (vs : List AV) : Sx := fun s k _ => match vs with | [st, .int (.lit b)] => onState st s (take b s k) | _ => false
noncomputable def okKind (l : List Nat) : Bool := match strEq l [108, 111, 103, 105, 99, 97, 108], strEq l [105, 110, 116, 101, 103, 101, 114], strEq l [100, 111, 117, 98, 108, 101], strEq l [99, 104, 97, 114, 97, 99, 116, 101, 114] with
  | false, false, false, false => false
  | _, _, _, _ => true
noncomputable def itemB (vs : List AV) : Sx := fun s k _ => match vs with | [st, .str (.lit kind), .opq 0] => (match okKind kind with | true => onState st s (item (strongNow s) kind s k) | false => false) | _ => false
noncomputable def xTake (as : List Sx) : Sx := fun s k kr => evs as s (fun vs s => takeB vs s k kr) kr
noncomputable def xItem (as : List Sx) : Sx := fun s k kr => evs as s (fun vs s => itemB vs s k kr) kr
noncomputable def callF (n : Nat) (body : Sb) (vs : List AV) : Sx := fun s k kr => body ⟨padL vs n, .none, s.objs, s.nx⟩ (fun s' => k .none (back s s')) (fun v s' => k v (back s s')) (fun v s' => kr v (back s s'))
noncomputable def xFn (n : Nat) (body : Sb) (as : List Sx) : Sx := fun s k kr => evs as s (fun vs s => callF n body vs s k kr) kr
noncomputable def xCls (c : Nat) (as : List Sx) : Sx := fun s k kr => evs as s (fun vs s => make c vs s k) kr
noncomputable def bi1 (B : AV → St → KV → Bool) (x : Sx) : Sx := fun s k kr => x s (fun v s => B v s k) kr
noncomputable def bLen : AV → St → KV → Bool := fun v s k => onObj v s fun o => onO (lenOf o) fun n => k (.int (.lit (.ofNat n))) s
noncomputable def xLen (x : Sx) : Sx := bi1 bLen x
noncomputable def isVec (d : Nat) : Option Bool := match Nat.beq d 314 with
  | true => some true
  | false => match Nat.beq d 285, Nat.beq d 335, Nat.beq d 357, Nat.beq d 379, Nat.beq d 401 with
    | false, false, false, false, false => Option.none
    | _, _, _, _, _ => some false
noncomputable def xIsI (x : Sx) : Sx := fun s k kr => x s (fun v s => onInst v s fun d _ => onO (isVec d) fun b => k (.bool b) s) kr
noncomputable def xIsB (x : Sx) : Sx := fun s k kr => x s (fun v s => onB (isBool v) s k) kr
noncomputable def keysOf : List (List Nat × AV) → List AV
  | [] => []
  | e :: r => .str (.lit e.1) :: keysOf r
noncomputable def bLst : AV → St → KV → Bool := fun v s k => onObj v s fun o => match o with | .list xs => alloc (.list xs) s k | .dict es => alloc (.list (keysOf es)) s k | _ => false
noncomputable def xLst (x : Sx) : Sx := bi1 bLst x
noncomputable def bStr : AV → St → KV → Bool := fun v s k => onO (strOf v) fun z => k (.str z) s
noncomputable def xStrf (x : Sx) : Sx := bi1 bStr x
noncomputable def orNone (o : Option AV) : AV := match o with | some v => v | Option.none => .none
noncomputable def xDget (d x : Sx) : Sx := fun s k kr => d s (fun v s => onDict v s fun _ => x s (fun y s => onDict v s fun es => onS y fun t => k (orNone (lookS t es)) s) kr) kr
noncomputable def xJoin (x : Sx) : Sx := fun s k kr => x s (fun v s => onList v s fun xs => onO (joinOf xs) fun l => ifO (short l) (k (.str (.lit l)) s)) kr
noncomputable def xAdd (l r : Sx) : Sx := fun s k kr => l s (fun a s => r s (fun b s => addOf a b s k) kr) kr
noncomputable def xMul (l r : Sx) : Sx := fun s k kr => l s (fun a s => r s (fun b s => mulOf a b s k) kr) kr
noncomputable def xCmp (op : Op) (l r : Sx) : Sx := fun s k kr => l s (fun a s => r s (fun b s => onB (compare op a b s) s k) kr) kr
noncomputable def xNot (x : Sx) : Sx := fun s k kr => x s (fun v s => ifB v (k (.bool false) s) (k (.bool true) s)) kr
noncomputable def xAnd (xs : List Sx) : Sx := ands xs
noncomputable def xOr (xs : List Sx) : Sx := ors xs
noncomputable def xIfe (t b e : Sx) : Sx := fun s k kr => t s (fun v s => ifB v (b s k kr) (e s k kr)) kr
noncomputable def xSub (x i : Sx) : Sx := fun s k kr => x s (fun a s => i s (fun b s => onObj a s fun o => onO (seqOf o) fun xs => onO (pick xs b) fun v => k v s) kr) kr
noncomputable def xSubK (x i : Sx) : Sx := fun s k kr => x s (fun a s => i s (fun b s => onDict a s fun es => onS b fun t => onO (lookS t es) fun v => k v s) kr) kr
noncomputable def dropL : Nat → List AV → List AV
  | 0, l => l
  | _ + 1, [] => []
  | n + 1, _ :: r => dropL n r
noncomputable def takeL : Nat → List AV → List AV
  | 0, _ => []
  | _ + 1, [] => []
  | n + 1, v :: r => v :: takeL n r
noncomputable def xSlLo (x i : Sx) : Sx := fun s k kr => x s (fun a s => i s (fun b s => onList a s fun xs => onN b fun n => alloc (.list (dropL n xs)) s k) kr) kr
noncomputable def xSlHi (x i : Sx) : Sx := fun s k kr => x s (fun a s => i s (fun b s => onList a s fun xs => onN b fun n => alloc (.list (takeL n xs)) s k) kr) kr
noncomputable def xList (xs : List Sx) : Sx := fun s k kr => evs xs s (fun vs s => alloc (.list vs) s k) kr
noncomputable def xTup (xs : List Sx) : Sx := fun s k kr => evs xs s (fun vs s => alloc (.tup vs) s k) kr
noncomputable def onNil (v : AV) (s : St) (f : Bool) : Bool := onDict v s fun es => match es with | [] => f | _ => false
noncomputable def xDict1 (t : List Nat) (x : Sx) : Sx := fun s k kr => alloc (.dict []) s fun d s => x s (fun v s => onI d fun i => onNil d s (k d (setObjs (upd i (.dict [(t, v)]) s.objs) s))) kr
noncomputable def xComp (e src : Sx) : Sx := fun s k kr => src s (fun v s => onList v s fun _ => comps e v 41 0 [] s k noR) kr
noncomputable def xCompE (e src : Sx) : Sx := fun s k kr => src s (fun v s => onList v s fun _ => comps e v 41 0 [] s k kr) kr
noncomputable def xCompR (e n : Sx) : Sx := fun s k kr => n s (fun v s => onN v fun n => ifO (Nat.ble n 40) (compsR e n 0 [] s k)) kr
noncomputable def sBad : Sb := fun _ _ _ _ => false
noncomputable def sAsg (i : Nat) (x : Sx) : Sb := fun s k _ kr => x s (fun v s => k (setLoc i v s)) kr
noncomputable def sAsgA (o : Sx) (a : Nat) (x : Sx) : Sb := fun s k _ kr => x s (fun v s => o s (fun w s => onI w fun i => onInst w s fun c fs => onO (look a fs) fun _ => k (setObjs (upd i (.inst c (putF a v fs)) s.objs) s)) kr) kr
noncomputable def sAsgK (o t x : Sx) : Sb := fun s k _ kr => x s (fun v s => o s (fun w s => t s (fun y s => onI w fun i => onDict w s fun es => onS y fun t => ifO (smallD es 30) (k (setObjs (upd i (.dict (putS t v es)) s.objs) s))) kr) kr) kr
noncomputable def on2 (v : AV) (s : St) (f : AV → AV → Bool) : Bool := onObj v s fun o => match o with | .tup [a, b] => f a b | _ => false
noncomputable def sAsg2 (i j : Nat) (x : Sx) : Sb := fun s k _ kr => x s (fun v s => on2 v s fun a b => k (setLoc j b (setLoc i a s))) kr
noncomputable def sIff (t : Sx) (b e : Sb) : Sb := fun s k kret kr => t s (fun v s => ifB v (b s k kret kr) (e s k kret kr)) kr
noncomputable def sForL (i : Nat) (x : Sx) (b : Sb) : Sb := fun s k kret kr => x s (fun v s => onList v s fun _ => loops i b v 41 0 s k kret) kr
noncomputable def sForR (i : Nat) (x : Sx) (b : Sb) : Sb := fun s k kret kr => x s (fun v s => onN v fun n => ifO (Nat.ble n 40) (loopsR i b n 0 s k kret)) kr
noncomputable def sRet (x : Sx) : Sb := fun s _ kret kr => x s kret kr
noncomputable def clr : List (Option AV) → Nat → List (Option AV)
  | [], _ => []
  | _ :: r, 0 => Option.none :: r
  | x :: r, n + 1 => x :: clr r n
noncomputable def clrLoc (i : Nat) (s : St) : St := ⟨clr s.loc i, s.cv, s.objs, s.nx⟩
noncomputable def onExc (v : AV) (s : St) (f : AV → Bool) : Bool := onObj v s fun o => match o with | .exc m => f m | _ => false
noncomputable def onCau (v : AV) (s : St) (f : AV → Bool) : Bool := onObj v s fun o => match o with | .cau m => f m | _ => false
noncomputable def xMsg (x : Sx) : Sx := fun s k kr => x s (fun v s => onCau v s fun m => noOpq m (k m s)) kr
noncomputable def sRaise (x : Sx) : Sb := fun s _ _ kr => x s (fun v s => onExc v s fun m => onI v fun i => kr m (setObjs (upd i .gone s.objs) s)) kr
noncomputable def sTryx (b : Sb) (i : Nat) (h : Sb) : Sb := fun s k kret _ => b s k kret (fun m s => alloc (.cau m) s fun v s => h (setLoc i v s) (fun s => ifO (Nat.blt i s.loc.length) (k (clrLoc i s))) (fun v s => ifO (Nat.blt i s.loc.length) (kret v (clrLoc i s))) noR)
noncomputable def sApp (o x : Sx) : Sb := fun s k _ kr => o s (fun w s => onList w s fun _ => x s (fun v s => onI w fun i => onList w s fun xs => ifO (small xs 39) (k (setObjs (upd i (.list (xs ++ [v])) s.objs) s))) kr) kr
noncomputable def blk : List Sb → Sb
  | [], s, k, _, _ => k s
  | c :: r, s, k, kret, kr => c s (fun s => blk r s k kret kr) kret kr
noncomputable def keepsL (s : St) : Bool := match s.loc with
  | some (.opq 0) :: some (.obj 1) :: _ => (match look 1 s.objs with | some .state => true | _ => false)
  | _ => false
noncomputable def stLaw : St := ⟨[some (.opq 0), some (.obj 1), none, none, none, none, none], .none, [(1, .state)], 2⟩
inductive Sl where
  | ad (a d : Addr) | num (x : Int) | val (v : Value)
noncomputable abbrev Va := Nat → Option Sl
noncomputable def Va.Le (r r' : Va) : Prop := ∀ i x, r i = some x → r' i = some x
theorem Va.Le.refl (r : Va) : r.Le r := fun _ _ h => h
theorem Va.Le.trans {r r' r'' : Va} (h : r.Le r') (h' : r'.Le r'') : r.Le r'' := fun i x e => h' i x (h i x e)
noncomputable def Va.put (r : Va) (n : Nat) (x : Sl) : Va := fun j => if j = n then some x else r j
theorem Va.put_le {r : Va} {n : Nat} {x : Sl} (h : r n = none) : r.Le (r.put n x) := fun i y e => by
  unfold Va.put
  by_cases q : i = n
  · subst q; rw [h] at e; cases e
  · rw [if_neg q]; exact e
theorem Va.put_at {r : Va} {n : Nat} {x : Sl} : r.put n x n = some x := if_pos rfl
noncomputable def mkS (l : List Nat) : Str := ⟨l.toArray⟩
noncomputable def AIR (r : Va) : AI → Int → Prop
  | .lit k, x => x = k
  | .sym i, x => r i = some (.num x) ∧ x.natAbs < 2 ^ 62
  | .nz i, x => r i = some (.num x) ∧ x.natAbs < 2 ^ 62 ∧ x ≠ 0
  | .one l, x => x ∈ l
noncomputable def ASR (r : Va) : AS → Str → Prop
  | .lit l, s => s = mkS l
  | .num l i, s => ∃ x, r i = some (.num x) ∧ x.natAbs < 2 ^ 62 ∧ s = mkS l ++ Str.ofString (toString x)
noncomputable def VR (r : Va) : AV → Value → Prop
  | .none, v => v = .none
  | .bool b, v => v = .bool b
  | .int a, v => ∃ x t, AIR r a x ∧ v = .int x t
  | .str a, v => ∃ x t, ASR r a x ∧ v = .str x t
  | .obj i, v => ∃ a d, r i = some (.ad a d) ∧ v = .ref a
  | .opq i, v => r i = some (.val v)
inductive VRs (r : Va) : List AV → List Value → Prop
  | nil : VRs r [] []
  | cons {a v l vs} : VR r a v → VRs r l vs → VRs r (a :: l) (v :: vs)
theorem AIR.mono {r r' : Va} (h : r.Le r') : ∀ {a x}, AIR r a x → AIR r' a x
  | .lit _, _, e => e
  | .sym _, _, ⟨e, b⟩ => ⟨h _ _ e, b⟩
  | .nz _, _, ⟨e, b⟩ => ⟨h _ _ e, b⟩
  | .one _, _, e => e
theorem ASR.mono {r r' : Va} (h : r.Le r') : ∀ {a x}, ASR r a x → ASR r' a x
  | .lit _, _, e => e
  | .num _ _, _, ⟨x, e, b⟩ => ⟨x, h _ _ e, b⟩
theorem VR.mono {r r' : Va} (h : r.Le r') : ∀ {a x}, VR r a x → VR r' a x
  | .none, _, e => e
  | .bool _, _, e => e
  | .int _, _, ⟨x, t, e, b⟩ => ⟨x, t, e.mono h, b⟩
  | .str _, _, ⟨x, t, e, b⟩ => ⟨x, t, e.mono h, b⟩
  | .obj _, _, ⟨a, d, e, b⟩ => ⟨a, d, h _ _ e, b⟩
  | .opq _, _, e => h _ _ e
theorem VRs.mono {r r' : Va} (h : r.Le r') {l vs} (x : VRs r l vs) : VRs r' l vs := by
  induction x with
  | nil => exact .nil
  | cons a _ ih => exact .cons (a.mono h) ih
theorem VRs.length {r : Va} {l vs} (x : VRs r l vs) : vs.length = l.length := by
  induction x with
  | nil => rfl
  | cons _ _ ih => rw [List.length_cons, List.length_cons, ih]
theorem VRs.at {r : Va} {l vs} (x : VRs r l vs) : ∀ {i a}, at? l i = some a → ∃ v, vs[i]? = some v ∧ VR r a v := by
  induction x with
  | nil => intro i a h; cases i <;> cases h
  | cons a _ ih =>
    intro i b h
    cases i with
    | zero => cases h; exact ⟨_, rfl, a⟩
    | succ i => rw [List.getElem?_cons_succ]; exact ih h
theorem VRs.append {r : Va} {l vs l' vs'} (x : VRs r l vs) (y : VRs r l' vs') : VRs r (l ++ l') (vs ++ vs') := by
  induction x with
  | nil => exact y
  | cons a _ ih => exact .cons a ih

noncomputable def attrL : Nat → List Nat
  | 0 => [107, 105, 110, 100]
  | 1 => [105, 116, 101, 109, 115]
  | 2 => [97, 116, 116, 114, 115]
  | 3 => [115, 104, 97, 114, 101, 100]
  | 4 => [108, 111, 111, 115, 101]
  | 5 => [110, 97, 109, 101]
  | 6 => [116, 97, 103, 115]
  | 7 => [99, 111, 100, 101]
  | 8 => [102, 111, 114, 109, 97, 108, 115]
  | 9 => [98, 111, 100, 121]
  | 10 => [101, 110, 118]
  | 11 => [110, 117, 109, 98, 101, 114]
  | 12 => [112, 97, 114, 101, 110, 116]
  | 13 => [102, 114, 97, 109, 101]
  | 14 => [108, 111, 99, 107, 101, 100]
  | 15 => [108, 111, 99, 107, 115]
  | 16 => [109, 101, 115, 115, 97, 103, 101]
  | _ => []
inductive DR (P : Params) (r : Va) : List (List Nat × AV) → List DictEntry → Prop
  | nil : DR P r [] []
  | cons {k a v t l es} : VR r a v → DR P r l es → DR P r ((k, a) :: l) (⟨PyData.keyHash P (mkS k), .str (mkS k) t, v⟩ :: es)
inductive KR (r : Va) : List (List Nat × AV) → List (Str × Value) → Prop
  | nil : KR r [] []
  | cons {k a v l es} : VR r a v → KR r l es → KR r ((k, a) :: l) ((mkS k, v) :: es)
theorem KR.mono {r r' : Va} (h : r.Le r') {l es} (x : KR r l es) : KR r' l es := by
  induction x with
  | nil => exact .nil
  | cons a _ ih => exact .cons (a.mono h) ih
noncomputable def nmF (fs : List (Nat × AV)) : List (List Nat × AV) := fs.map fun f => (attrL f.1, f.2)
noncomputable abbrev tupA (vs : Array Value) (n : Nat) : Obj := { cls := .type "tuple", data := .seq vs n }
theorem DR.mono {P : Params} {r r' : Va} (h : r.Le r') {l es} (x : DR P r l es) : DR P r' l es := by
  induction x with
  | nil => exact .nil
  | cons a _ ih => exact .cons (a.mono h) ih
noncomputable def AOk (P : Params) (c a : Nat) : Prop := a ≤ 16 ∧ AO P c (mkS (attrL a)) ∧ takerIn (hd.heap_1 P) c (mkS (attrL a)) = some none
noncomputable def ExD (r : Va) (m : AV) (od : Obj) : Prop := ∃ m₂ v', LCg.NsObj od m₂ ∧ m₂ (mkS (attrL 16)) = some v' ∧ VR r m v'
theorem ExD.mono {r r' : Va} (h : r.Le r') {m : AV} {od : Obj} : ExD r m od → ExD r' m od := fun ⟨m₂, v', a, b, c⟩ => ⟨m₂, v', a, b, c.mono h⟩
noncomputable def OR (w : World) (r : Va) (i : Nat) : Ob → List (Addr × Obj) → Prop
  | .list xs, l => ∃ a d vs n, r i = some (.ad a d) ∧ l = [(a, listOf vs.toArray n)] ∧ VRs r xs vs ∧ xs.length ≤ 40
  | .tup xs, l => ∃ a d vs n, r i = some (.ad a d) ∧ l = [(a, tupA vs.toArray n)] ∧ VRs r xs vs ∧ xs.length ≤ 40
  | .dict es, l => ∃ a d o kvs, r i = some (.ad a d) ∧ l = [(a, o)] ∧ Obj.IsDictOf (PySem.strKind PySem.Challenge.rw_nz0498_01.row.prog w) o kvs ∧ KR r es kvs ∧ (a == sysModules) = false ∧ es.length ≤ 40
  | .inst c fs, l => ∃ a d ds n, r i = some (.ad a d) ∧ l = [(a, instObj c d), (d, dictOf ds n)] ∧ DR w.params r (nmF fs) ds ∧ ds.length ≤ 40 ∧ ∀ k v, look k fs = some v → AOk w.params c k
  | .exc m, l => ∃ e d oe vs od, r i = some (.ad e d) ∧ l = [(e, oe), (d, od)] ∧ oe.cls = .ref 75 ∧ oe.dict = some d ∧ oe.data = .fields vs ∧ vs[1]? = some .none ∧ ExD r m od
  | .cau m, l => ∃ e d oe vs od, r i = some (.ad e d) ∧ l = [(e, oe), (d, od)] ∧ oe.cls = .ref 75 ∧ oe.dict = some d ∧ oe.data = .fields vs ∧ ExD r m od
  | .gone, l => l = []
  | .state, l => ∃ a d S, r i = some (.ad a d) ∧ l = StD.led S a d ∧ S.Ok a d
theorem OR.mono {w : World} {r r' : Va} (h : r.Le r') {i : Nat} : ∀ {o l}, OR w r i o l → OR w r' i o l
  | .list _, _, ⟨a, d, vs, n, e, el, x, z⟩ => ⟨a, d, vs, n, h _ _ e, el, x.mono h, z⟩
  | .tup _, _, ⟨a, d, vs, n, e, el, x, z⟩ => ⟨a, d, vs, n, h _ _ e, el, x.mono h, z⟩
  | .dict _, _, ⟨a, d, o, kvs, e, el, x, y, z⟩ => ⟨a, d, o, kvs, h _ _ e, el, x, y.mono h, z⟩
  | .inst _ _, _, ⟨a, d, vs, n, e, el, x, z⟩ => ⟨a, d, vs, n, h _ _ e, el, x.mono h, z⟩
  | .exc _, _, ⟨a, d, oe, vs, od, e, el, h1, h2, h3, h4, x⟩ => ⟨a, d, oe, vs, od, h _ _ e, el, h1, h2, h3, h4, x.mono h⟩
  | .cau _, _, ⟨a, d, oe, vs, od, e, el, h1, h2, h3, x⟩ => ⟨a, d, oe, vs, od, h _ _ e, el, h1, h2, h3, x.mono h⟩
  | .gone, _, e => e
  | .state, _, ⟨a, d, S, e, el, x⟩ => ⟨a, d, S, h _ _ e, el, x⟩
noncomputable def LedR (w : World) (r : Va) : List (Nat × Ob) → List (Addr × Obj) → Prop
  | [], l => l = []
  | p :: q, l => ∃ l₁ l₂, l = l₁ ++ l₂ ∧ OR w r p.1 p.2 l₁ ∧ LedR w r q l₂
theorem LedR.mono {w : World} {r r' : Va} (h : r.Le r') : ∀ {os l}, LedR w r os l → LedR w r' os l
  | [], _, e => e
  | _ :: _, _, ⟨l₁, l₂, e, a, b⟩ => ⟨l₁, l₂, e, a.mono h, b.mono h⟩
theorem LedR.look {w : World} {r : Va} {i : Nat} {o : Ob} : ∀ {os l}, LedR w r os l → look i os = some o →
    ∃ pre l₁ post, l = pre ++ (l₁ ++ post) ∧ OR w r i o l₁ ∧ ∀ r' o' l₁', r.Le r' → OR w r' i o' l₁' → LedR w r' (upd i o' os) (pre ++ (l₁' ++ post))
  | [], _, _, h => by cases h
  | (j, o₀) :: q, l, ⟨l₁, l₂, e, a, b⟩, h => by
    subst e
    unfold Mine.look at h
    cases hj : Nat.beq i j with
    | true =>
      rw [hj] at h; cases h
      cases Nat.eq_of_beq_eq_true hj
      refine ⟨[], l₁, l₂, rfl, a, fun r' o' l₁' hr hx => ?_⟩
      unfold upd; rw [hj]
      exact ⟨l₁', l₂, rfl, hx, b.mono hr⟩
    | false =>
      rw [hj] at h
      obtain ⟨pre, m₁, post, e', a', k⟩ := b.look h
      refine ⟨l₁ ++ pre, m₁, post, by rw [e', List.append_assoc], a', fun r' o' l₁' hr hx => ?_⟩
      unfold upd; rw [hj]
      exact ⟨l₁, _, by rw [List.append_assoc], a.mono hr, k r' o' l₁' hr hx⟩
theorem upd_mid {d : Addr} {o o' : Obj} {B : List (Addr × Obj)} : ∀ {A : List (Addr × Obj)}, ((A ++ (d, o) :: B).map (·.1)).Nodup → Upd d o o' (A ++ (d, o) :: B) (A ++ (d, o') :: B)
  | [], h => .head fun p hp e => by
    rw [List.nil_append, List.map_cons, List.nodup_cons] at h
    exact h.1 (List.mem_map.mpr ⟨p, hp, e⟩)
  | p :: A, h => by
    rw [List.cons_append, List.map_cons, List.nodup_cons] at h
    refine .tail (fun e => h.1 ?_) (upd_mid h.2)
    rw [e]
    exact List.mem_map.mpr ⟨(d, o), List.mem_append_right _ (.head _), rfl⟩
theorem keys_mid {d : Addr} {o o' : Obj} {A B : List (Addr × Obj)} (h : ((A ++ (d, o) :: B).map (·.1)).Nodup) : ((A ++ (d, o') :: B).map (·.1)).Nodup := by
  simpa only [List.map_append, List.map_cons] using h
structure CM where
  C : Addr
  v : Value
structure CmpS where
  sc : Scope
  x : Str
  clo : Addr → List (Str × Addr)
structure Cx where
  ns : List Str
  cn : Str
  cs : Scope
  cmp : Option CmpS
  hdl : Bool
  lev : Nat
structure Dy where
  dp : Nat
  un : Nat
  gd : Option (List Code)
  L : Addr
  a : Addr
  ccd : Value
  outer : List Env
  A₀ : Around
  base : Heap
  g : Heap
  gs : Array GenState
  d : Drawn
  os : OsState
  ext : List (Addr × Obj)
  cm : Option CM
  hd : Option Value
  sa : Addr
noncomputable abbrev clF (C : Cx) (D : Dy) : List (Str × Addr) := cellsFrom (D.L + 1) C.cs.names []
noncomputable abbrev fenv (C : Cx) (D : Dy) : Env := envX C.cn C.cs D.L D.a D.ccd (clF C D)
noncomputable def Cx.env (C : Cx) (D : Dy) : Env := match C.cmp, D.cm with
  | some c, some k => compEnvC c.sc (c.clo D.L) k.C (fenv C D)
  | _, _ => fenv C D
noncomputable def Cx.A (C : Cx) (D : Dy) : Around := { handled := D.hd, depth := D.dp, frames := some (fenv C D :: D.outer), guards := D.gd, units := D.un }
noncomputable abbrev Dy.fs (D : Dy) : List Addr := D.outer.filterMap (·.frame)
noncomputable abbrev PG : Program := PySem.Challenge.rw_nz0498_01.row.prog
noncomputable abbrev TopN (mg mb : Str → Option Value) (means : ExcName → Option Value) (h : Heap) : Prop := Top hd.view_39 (looseW hd.view_39 [Str.ofString "number_text"]) means mg mb h

structure ScOk (vs : List Value) (ns : List Int) : Prop where
  hInts : IntsAre vs ns
  hLen : ns.length ≤ 63
  hLay : (PyData.list (ns.map PyData.int)).layable0 = true
section
variable (w : World) (mg mb : Str → Option Value) (means : ExcName → Option Value)
structure Gr (D : Dy) (g : Heap) : Prop where
  T : KtsTurn D.fs D.g g
  B : Below D.A₀ D.base D.outer g
  K : KtsDicts D.fs g
structure Good (C : Cx) (D : Dy) : Prop where
  hk : C.cs.kind = .function
  nsd : C.ns.Nodup
  dp : D.dp + C.lev < recursionLimit
  un : D.un + 16 * C.lev < cLine
  XB : (hd.heap_1 w.params).In D.base
  TB : TopN mg mb means D.base
  hd : C.hdl = false → D.hd = none
  cm : match C.cmp, D.cm with
    | none, none => True
    | some c, some k => c.sc.kind = .function ∧ ∃ oC m₂, (k.C, oC) ∈ D.ext ∧ LCg.NsObj oC m₂ ∧ m₂ c.x = some k.v
    | _, _ => False
  sl : ∃ svs sns, ScOk svs sns ∧ D.base.IsList D.sa svs.toArray
noncomputable def SlotR (C : Cx) (D : Dy) (r : Va) (m : Str → Option Value) (cells : List (Addr × Obj)) (i : Nat) (v : AV) : Prop :=
  ∃ x v', C.ns[i]? = some x ∧ VR r v v' ∧ ((C.cs.names.lookup x = some .local ∧ m x = some v') ∨ (C.cs.names.lookup x = some .cell ∧ ∃ c o, (clF C D).lookup x = some c ∧ (c, o) ∈ cells ∧ o.data = .cell (some v')))
theorem SlotR.mono {C : Cx} {D : Dy} {r r' : Va} {m : Str → Option Value} {cells : List (Addr × Obj)} {i : Nat} {v : AV} (h : r.Le r') : SlotR C D r m cells i v → SlotR C D r' m cells i v :=
  fun ⟨x, v', e, a, b⟩ => ⟨x, v', e, a.mono h, b⟩
structure Core (C : Cx) (D : Dy) (r : Va) (s : St) (m : Str → Option Value) (cells news : List (Addr × Obj)) : Prop where
  nd : ((cells ++ (news ++ D.ext)).map (·.1)).Nodup
  led : LedR w r s.objs news
  new : ∀ i, s.nx ≤ i → r i = none
  slot : ∀ i v, s.get i = some v → SlotR C D r m cells i v
  cv : ∀ k, D.cm = some k → VR r s.cv k.v
  cell : ∀ x c, (clF C D).lookup x = some c → ∃ o v₀, (c, o) ∈ cells ∧ o.data = .cell v₀
  scr : r 0 = some (.val (.ref D.sa))
noncomputable def Inv (C : Cx) (D : Dy) (r : Va) (s : St) (h : Heap) : Prop :=
  ∃ g m cells news, Gr D g ∧ Fr g D.L h m ∧ News g D.L h (cells ++ (news ++ D.ext)) ∧ Core w C D r s m cells news
end

theorem Inv.el {w : World} {C : Cx} {D : Dy} {r : Va} {s : St} {h : Heap} {P : Prop} (I : Inv w C D r s h) (k : ∀ g m cells news, Gr D g → Fr g D.L h m → News g D.L h (cells ++ (news ++ D.ext)) → Core w C D r s m cells news → P) : P := by
  obtain ⟨g, m, cells, news, a, b, c, d⟩ := I
  exact k g m cells news a b c d
noncomputable def TracedD (B : Heap) (e d : Addr) (h : Heap) : Prop :=
  ∃ oe vs, h.get? e = some oe ∧ oe.cls = .ref 75 ∧ oe.dict = some d ∧ oe.data = .fields vs ∧ (vs[1]? = some .none ∨ ∃ T oT ts, vs[1]? = some (.ref T) ∧ B.get? T = none ∧ T ≠ e ∧ h.get? T = some oT ∧ oT.data = .fields ts ∧ ∃ f : Option Addr, ts[3]? = some (f.elim Value.none (fun a => rawInt a)))
noncomputable def FlyingD (B : Heap) (l : List Env) (e d : Addr) (h : Heap) : Prop := B.StaysIn h ∧ B.get? e = none ∧ h.FunFrames B l ∧ TracedD B e d h
noncomputable def RaisedD (base G : Heap) (l : List Env) (e d : Addr) (news : List (Addr × Obj)) (h : Heap) : Prop :=
  ∃ B : Heap, base.StaysIn B ∧ (∀ b o, G.get? b = some o → b ∉ l.filterMap (·.frame) → B.get? b = some o) ∧ (∀ q ∈ news, B.get? q.1 = some q.2 ∧ G.get? q.1 = none) ∧ FlyingD B l e d h
section
variable (w : World) (mg mb : Str → Option Value) (means : ExcName → Option Value)
noncomputable def Fly (C : Cx) (D : Dy) (r : Va) (mv : AV) (s : St) (x : Value) (h : Heap) : Prop :=
  ∃ g G m cells news e d od, x = .ref e ∧ Gr D g ∧ Fr g D.L G m ∧ G.UpToSlots h ∧ RaisedD D.base G (fenv C D :: D.outer) e d ((d, od) :: (cells ++ (news ++ D.ext))) h ∧
    (((d, od) :: (cells ++ (news ++ D.ext))).map (·.1)).Nodup ∧ ExD r mv od ∧ Core w C D r s m cells news
noncomputable def SndX (C : Cx) (x : Sx) (e : PySem.Expr) : Prop :=
  ∀ (D : Dy) (r : Va) (s : St) (h : Heap) (t : Nat) (k kr : KV) (Q E : Value → Shared → Prop), Good w mg mb means C D → x s k kr = true → Inv w C D r s h →
    (∀ r' v s' v' h' t', r.Le r' → k v s' = true → Inv w C D r' s' h' → VR r' v v' → Q v' ⟨h', D.gs, D.d, t', D.os⟩) →
    (∀ r' v s' v' h' t', r.Le r' → kr v s' = true → Fly w C D r' v s' v' h' → E v' ⟨h', D.gs, D.d, t', D.os⟩) →
    wpAny (model PG w) (C.A D) (eval e (C.env D)) Q E ⟨h, D.gs, D.d, t, D.os⟩
noncomputable def SndT (C : Cx) (x : Sx) (e : PySem.Expr) : Prop :=
  ∀ (D : Dy) (r : Va) (s : St) (h : Heap) (t : Nat) (k : Bool → St → Bool) (kr : KV) (Q : Bool → Shared → Prop) (E : Value → Shared → Prop), Good w mg mb means C D → x s (fun v s => ifB v (k true s) (k false s)) kr = true → Inv w C D r s h →
    (∀ r' b s' h' t', r.Le r' → k b s' = true → Inv w C D r' s' h' → Q b ⟨h', D.gs, D.d, t', D.os⟩) →
    (∀ r' v s' v' h' t', r.Le r' → kr v s' = true → Fly w C D r' v s' v' h' → E v' ⟨h', D.gs, D.d, t', D.os⟩) →
    wpAny (model PG w) (C.A D) (isTrue e (C.env D) (eval e (C.env D))) Q E ⟨h, D.gs, D.d, t, D.os⟩
noncomputable def SndXs (C : Cx) (xs : List Sx) (es : List PySem.Expr) : Prop :=
  ∀ (pos : Pos) (D : Dy) (r : Va) (s : St) (h : Heap) (t : Nat) (k : KL) (kr : KV) (Q : List Value → Shared → Prop) (E : Value → Shared → Prop), Good w mg mb means C D → evs xs s k kr = true → Inv w C D r s h →
    (∀ r' v s' v' h' t', r.Le r' → k v s' = true → Inv w C D r' s' h' → VRs r' v v' → Q v' ⟨h', D.gs, D.d, t', D.os⟩) →
    (∀ r' v s' v' h' t', r.Le r' → kr v s' = true → Fly w C D r' v s' v' h' → E v' ⟨h', D.gs, D.d, t', D.os⟩) →
    wpAny (model PG w) (C.A D) (spliced (backTo pos (starEach es (C.env D)))) Q E ⟨h, D.gs, D.d, t, D.os⟩
noncomputable def FlowQ (C : Cx) (D : Dy) (r : Va) (k : KS) (kret : KV) (Q : Flow → Shared → Prop) : Prop :=
    (∀ r' s' h' t', r.Le r' → k s' = true → Inv w C D r' s' h' → Q .next ⟨h', D.gs, D.d, t', D.os⟩) ∧
    (∀ r' v s' v' h' t', r.Le r' → kret v s' = true → Inv w C D r' s' h' → VR r' v v' → Q (.ret v') ⟨h', D.gs, D.d, t', D.os⟩)
noncomputable def SndS (C : Cx) (x : Sb) (e : PySem.Stmt) : Prop :=
  ∀ (D : Dy) (r : Va) (s : St) (h : Heap) (t : Nat) (k : KS) (kret kr : KV) (Q : Flow → Shared → Prop) (E : Value → Shared → Prop), Good w mg mb means C D → x s k kret kr = true → Inv w C D r s h →
    FlowQ w C D r k kret Q → (∀ r' v s' v' h' t', r.Le r' → kr v s' = true → Fly w C D r' v s' v' h' → E v' ⟨h', D.gs, D.d, t', D.os⟩) →
    wpAny (model PG w) (C.A D) (exec e (C.env D)) Q E ⟨h, D.gs, D.d, t, D.os⟩
noncomputable def SndB (C : Cx) (x : Sb) (e : List PySem.Stmt) : Prop :=
  ∀ (D : Dy) (r : Va) (s : St) (h : Heap) (t : Nat) (k : KS) (kret kr : KV) (Q : Flow → Shared → Prop) (E : Value → Shared → Prop), Good w mg mb means C D → x s k kret kr = true → Inv w C D r s h →
    FlowQ w C D r k kret Q → (∀ r' v s' v' h' t', r.Le r' → kr v s' = true → Fly w C D r' v s' v' h' → E v' ⟨h', D.gs, D.d, t', D.os⟩) →
    wpAny (model PG w) (C.A D) (execs e (C.env D)) Q E ⟨h, D.gs, D.d, t, D.os⟩
end
inductive It where
  | none
  | int (i : Int)
  | str (x : Str)
  | rat (n d : Int)
noncomputable def ItIn (rest l : List (Addr × Obj)) (v : Value) : It → Prop
  | .none => v = .none
  | .int i => ∃ t, v = .int i t
  | .str x => ∃ t, v = .str x t
  | .rat n d => ∃ a t1 t2, v = .ref a ∧ (a, tupA #[.int n t1, .int d t2] 0) ∈ l ∧ AllLt a rest
noncomputable def OkLog (i : It) : Prop := i = .none ∨ i = .int 0 ∨ i = .int 1
noncomputable def OkInt (i : It) : Prop := i = .none ∨ ∃ x, i = .int x ∧ x.natAbs < 2 ^ 62
noncomputable def OkDbl (i : It) : Prop := i = .none ∨ ∃ n d, i = .rat n d ∧ (n, d) ∈ [((1 : Int), (2 : Int)), (0, 1), (0, 0), (1, 0), (-1, 0), (-3, 1), (7, 1000000000)]
noncomputable def OkChr (i : It) : Prop := i = .none ∨ ∃ x, i = .str x ∧ x ∈ words.map mkS
noncomputable def Stop (p : Prop) : Prop := p
theorem stop_here {p : Prop} (h : Stop p) : p := h
theorem ite_true {c p q : Prop} {d : Decidable c} (hc : c) (h : p) : @ite Prop c d p q := by rw [if_pos hc]; exact h
theorem ite_false' {c p q : Prop} {d : Decidable c} (hc : ¬c) (h : q) : @ite Prop c d p q := by rw [if_neg hc]; exact h
section
local macro_rules | `(tactic| k_room) => `(tactic| ktr_room)
local macro_rules | `(tactic| ktr_room) => `(tactic| omega)
local macro_rules | `(tactic| ktr_units) => `(tactic| omega)
local macro_rules | `(tactic| k_all) => `(tactic| first | assumption | exact Above.ne (by assumption))
local macro_rules | `(tactic| k_all) => `(tactic| first | exact List.forall_mem_nil _ | (refine' List.forall_mem_cons.mpr ⟨?a, ?b⟩; (case a => k_ne); (case b => k_all)))
local macro_rules | `(tactic| ktn_lt) => `(tactic| ((refine ltN ?_); (try dsimp only); first | with_reducible assumption | omega | (refine' Has.lt ?H ?h; (case h => first | assumption | exact allLt_of (by assumption) | exact And.right (by assumption) | exact And.right (And.right (by assumption)) | exact And.right (And.right (And.right (by assumption))) | exact And.right (And.right (And.right (And.right (by assumption))))); (case H => first | assumption | exact Has.next (by assumption) _))))
local macro_rules | `(tactic| ktr_rel) => `(tactic| first
  | (with_reducible refine' Has.cons ?a ?b; (case b => ktr_rel); (case a => ktn_lt)) | (with_reducible refine' Has.app ?a ?b; (case b => ktr_rel); (case a => with_reducible assumption))
  | with_reducible exact Has.base | with_reducible assumption | with_reducible exact Has.next (by assumption) _
  | exact Above.nil | (refine' Above.cons ?a ?b; (case a => ktn_lt); (case b => ktr_rel)) | (refine' Above.app ?a ?b; (case a => ktr_rel); (case b => ktr_rel)))
local macro_rules | `(tactic| walk_at "eval Name") => `(tactic| (k_dflt first
  | (refine' ldV ?kl ?kF ?kv ?_; (case kl => with_reducible assumption); (case kF => k_asm); (case kv => exact rfl); k_whole)
  | (refine' gbV ?kl ?kg ?kF ?kX ?kT ?_; (case kl => with_reducible assumption); (case kg => ktr_unf); (case kF => k_asm); (case kX => k_asm); (case kT => k_asm); k_whole)
  | (refine' glV ?kl ?kg ?kF ?kX ?kT ?_; (case kl => with_reducible assumption); (case kg => ktr_unf); (case kF => k_asm); (case kX => k_asm); (case kT => k_asm); k_whole)))
local macro_rules | `(tactic| walk_at "eval Constant int") => `(tactic| (with_reducible refine cI ?_))
local macro_rules | `(tactic| walk_at "eval Constant str") => `(tactic| (with_reducible refine cS ?_))
local macro_rules | `(tactic| walk_at "storeName") => `(tactic| (k_dflt (refine' stV ?kl ?kF ?kN ?ki ?_; (case kl => with_reducible assumption); (case kF => k_asm); (case kN => k_asm); (case ki => exact Nat.le_of_ble_eq_true rfl); k_whole); intro h' F' N'; (try k_sweep)))
local macro_rules | `(tactic| walk_at "eval Call Name") => `(tactic| ((with_reducible show wpAny _ _ (eval (PySem.Expr.Call (PySem.Expr.Name _ _) (_ :: _) [] _) _) _ _ _); k_dflt (refine' callG ?kl ?kg ?kF ?kX ?kT ?_; (case kl => with_reducible assumption); (case kg => ktr_unf); (case kF => k_asm); (case kX => k_asm); (case kT => k_asm); k_whole)))
local macro_rules | `(tactic| walk_at "eval Call Name") => `(tactic| ((with_reducible show wpAny _ _ (eval (PySem.Expr.Call (PySem.Expr.Name _ _) [] [] _) _) _ _ _); k_dflt (refine' callG0 ?kl ?kg ?kF ?kX ?kT ?_; (case kl => with_reducible assumption); (case kg => ktr_unf); (case kF => k_asm); (case kX => k_asm); (case kT => k_asm); k_whole)))
local macro_rules | `(tactic| walk_at "setAttr ref") => `(tactic| (k_dflt (refine' saL ?kc ?kF ?kX ?kN ?k1 ?k2 ?kt ?kl ?ke ?kU ?kz ?_; (case kF => k_asm); (case kX => k_asm); (case kN => k_asm); (case k1 => k_mem); (case kc => ktn_open); (case kt => ktn_open); (case k2 => k_mem); (case kl => k_get); (case ke => k_put); (case kU => k_upd); (case kz => exact Nat.le_of_ble_eq_true rfl); k_whole); intro h' F' N'; (try k_sweep)))
local macro_rules | `(tactic| walk_at "subscriptTail Name Constant ref int") => `(tactic| (k_dflt (refine' item_led ?kn ?km ?kj ?ka ?kb ?kx ?_; (case kn => k_asm); (case km => k_mem); (case kj => exact rfl); (case ka => decide); (case kb => decide); (case kx => exact rfl); k_whole)))
local macro_rules | `(tactic| walk_at "execs cons") => `(tactic| (with_reducible refine wpAny_execs_cons ?_))
local macro_rules | `(tactic| walk_at "Lv") => `(tactic| (k_dflt (refine' lv_ret ?kF ?kN ?_; (case kF => k_asm); (case kN => k_asm); k_whole)))
local macro_rules | `(tactic| walk_at "newList") => `(tactic| (k_dflt (refine' newList_K ?k1 ?k2 ?_; (case k1 => k_asm); (case k2 => k_asm); k_whole); intro l' h' F' N' lt1; (try have hs' := Has.lt (by ktr_rel) (allLt_of lt1)); (replace lt1 := allLt_of lt1; (try simp only [AllLt, and_true, allLt_led, allLt_app] at lt1)); (try k_sweep)))
local macro_rules | `(tactic| walk_at "newTuple") => `(tactic| (k_dflt (refine' newTupL ?kF ?kN ?kz ?_; (case kF => k_asm); (case kN => k_asm); (case kz => exact Nat.le_of_ble_eq_true rfl); k_whole); intro r' h' F' N' lt1; (try have hs' := Has.lt (by ktr_rel) (allLt_of lt1)); (replace lt1 := allLt_of lt1; (try simp only [AllLt, and_true, allLt_led, allLt_app] at lt1)); (try k_sweep)))
local macro_rules | `(tactic| walk_at "subscriptTail") => `(tactic| ((with_reducible show wpAny _ _ (subscriptTail _ _ (Value.ref _) (Value.int _ _)) _ _ _); k_dflt (refine' item_any ?kN ?km ?ka ?kb ?kz ?_; (case kN => k_asm); (case km => k_mem); (case ka => omega); (case kb => (simp only [List.length_cons, List.length_nil]; omega)); (case kz => exact Nat.le_of_ble_eq_true rfl); k_whole); intro v' hv'))
local macro_rules | `(tactic| walk_at "call ref") => do
  let n := Lean.mkIdent `Mine.take_ct
  `(tactic| ((with_reducible show wpAny _ _ (call (Value.ref 562) [_, _]) _ _ _); k_dflt (refine' Ct.use ($n:ident _ _ _ _ ?kO ?k0 ?k1 ?kH ?kr) ?kB ?kF ?kX ?kN ?kT ?khb ?kk ?kd ?ku (fun _ hp => hp) ?_; (case kB => k_asm); (case kF => k_asm); (case kX => k_asm); (case kN => k_asm); (case kT => k_asm); (case khb => first | exact (fun _ h => nomatch h) | assumption); (case kk => exact rfl); (case kd => ktr_room); (case ku => ktr_units); (case kH => ktr_rel); (case kr => assumption); (case kO => assumption); (case k0 => first | decide | omega); (case k1 => first | decide | omega); k_whole); intro r' news' h' tk' hok F' N'; obtain ⟨x', t', S', e1, hlo', hhi', hS', e2⟩ := hok; subst e1; subst e2; (try dsimp only at N'); (try k_sweep)))
local macro_rules | `(tactic| ktr_unf) => `(tactic| with_reducible first | exact gf_law_take _ | exact gb_len _ | exact gb_isinstance _ | exact gb_range _ | exact gb_list _ | exact gb_str _ | exact gb_int _ | exact gb_abs _ | exact gb_bool _)
local macro_rules | `(tactic| ktn_open) => `(tactic| with_reducible first | exact co_285 _ | exact co_314 _ | exact co_335 _ | exact co_357 _ | exact co_379 _ | exact co_401 _ | exact tk_285_kind _ | exact tk_285_attrs _ | exact tk_314_kind _ | exact tk_314_items _ | exact tk_314_attrs _ | exact tk_314_shared _ | exact tk_314_loose _ | exact tk_335_kind _ | exact tk_335_name _ | exact tk_335_attrs _ | exact tk_357_kind _ | exact tk_357_items _ | exact tk_357_tags _ | exact tk_357_attrs _ | exact tk_357_code _ | exact tk_379_kind _ | exact tk_379_formals _ | exact tk_379_body _ | exact tk_379_env _ | exact tk_379_attrs _ | exact tk_401_kind _ | exact tk_401_number _ | exact tk_401_parent _ | exact tk_401_attrs _ | exact tk_401_frame _ | exact tk_401_locked _ | exact tk_401_locks _)
theorem take_ct2 (w : World) (mg mb : Str → Option Value) (means : ExcName → Option Value) {st rw : Addr} {S : StD} (OK : S.Ok st rw) {b : Int} {tb : Tok} (hb0 : 0 < b) (hb1 : b ≤ 660) {rest : List (Addr × Obj)} (hst : ∀ p ∈ rest, p.1 ≠ st) (hrw : ∀ p ∈ rest, p.1 ≠ rw) :
    Ct w mg mb means 562 [.ref st, .int b tb] 2 16 (S.led st rw ++ rest) (fun r news' => ∃ x t S', r = .int x t ∧ 0 ≤ x ∧ x < b ∧ StD.Ok S' st rw ∧ news' = StD.led S' st rw ++ rest) := by
  obtain ⟨its, xs, sd, tk, n, n'⟩ := S
  obtain ⟨hI, hlen, hrow, hlo, hhi, hlt⟩ := OK
  dsimp only at hI hlen hrow hlo hhi hlt
  have hlen' := hI.length
  show Ct w mg mb means 562 [.ref st, .int b tb] 2 16 ((st, listOf #[.ref rw, .int sd tk] n) :: (rw, listOf its.toArray n') :: rest) _
  refine ct_enter [Str.ofString "state", Str.ofString "bound"] [Str.ofString "len"] [some (.ref st), some (.int b tb)] (by k_is) (by k_is) (by decide +kernel) (fun _ => BindsTo.of_eq rfl) (fun hi => lv_ent (lv_ent (lv_nil _ 2) (hi 0 _ rfl) (by simp)) (hi 1 _ rfl) (by simp)) rfl rfl (by decide) ?_
  intro lo gl dp un gd outer A₀ base g L h gs d t os B F X N T hbl hdp hun
  have l0 := lo 0 _ rfl
  have l1 := lo 1 _ rfl
  have g0 := gl 0 _ rfl
  clear lo gl
  k_steps
  · exact ⟨_, _, ⟨its.dropLast, xs.dropLast, sd, _, _, _⟩, rfl, Int.fmod_nonneg_of_pos _ hb0, Int.fmod_lt_of_pos _ hb0, ⟨by assumption, by dsimp only; rw [List.length_dropLast]; omega, fun x h => hrow x (List.dropLast_subset _ h), hlo, hhi, hlt⟩, rfl⟩
  · exact ⟨_, _, ⟨its, xs, _, _, _, _⟩, rfl, Int.fmod_nonneg_of_pos _ hb0, Int.fmod_lt_of_pos _ hb0, ⟨hI, hlen, hrow, Int.fmod_nonneg_of_pos _ (by decide), Int.fmod_lt_of_pos _ (by decide), hlt⟩, rfl⟩
  · exact ⟨_, _, ⟨its, xs, _, _, _, _⟩, rfl, Int.fmod_nonneg_of_pos _ hb0, Int.fmod_lt_of_pos _ hb0, ⟨hI, hlen, hrow, hlo, hhi, hlt⟩, rfl⟩
theorem take_ct (w : World) (mg mb : Str → Option Value) (means : ExcName → Option Value) {st rw : Addr} {S : StD} (OK : S.Ok st rw) {b : Int} {tb : Tok} (hb0 : 0 < b) (hb1 : b ≤ 660) {rest news : List (Addr × Obj)} {ff : StD → List (Addr × Obj)} (H : Has st rw S rest news ff) (hr : ∀ p ∈ rest, p.1 ≠ st ∧ p.1 ≠ rw) :
    Ct w mg mb means 562 [.ref st, .int b tb] 2 16 news (fun r news' => ∃ x t S', r = .int x t ∧ 0 ≤ x ∧ x < b ∧ StD.Ok S' st rw ∧ news' = ff S') := by
  obtain ⟨own, hab, hl, hf⟩ := H.spec
  have hne : ∀ p ∈ own ++ rest, p.1 ≠ st ∧ p.1 ≠ rw := fun p hp => (List.mem_append.mp hp).elim (fun h => ⟨Nat.ne_of_gt (hab p h), Nat.ne_of_gt (Nat.lt_trans OK.hLt (hab p h))⟩) (hr p)
  have base := take_ct2 w mg mb means OK hb0 hb1 (tb := tb) (fun p hp => (hne p hp).1) (fun p hp => (hne p hp).2)
  unfold Ct CtB at base ⊢
  intro dp un gd cn cs a ccd cl outer A₀ bs h₀ L m h g d t os Q E B F X N T hb hk hdp hun k
  refine base dp un gd cn cs a ccd cl outer A₀ bs h₀ L m h g d t os Q E B F X (fun p hp => N p ((hl p).mpr hp)) T hb hk hdp hun ?_
  rintro r news' h' tk' ⟨x, t, S', h1, h2, h3, h4, rfl⟩ F' N'
  exact k r (ff S') h' tk' ⟨x, t, S', h1, h2, h3, h4, rfl⟩ F' fun p hp => N' p ((hf S' p).mp hp)
noncomputable abbrev dE (P : Params) (x : String) (t : Tok) (v : Value) : DictEntry := ⟨PyData.keyHash P (Str.ofString x), .str (Str.ofString x) t, v⟩
noncomputable abbrev vecD (P : Params) (t0 t1 t2 t3 t4 : Tok) (k il at' : Value) (sh : Bool) : Obj := dictOf [dE P "kind" t0 k, dE P "items" t1 il, dE P "attrs" t2 at', dE P "shared" t3 (.bool sh), dE P "loose" t4 (.bool false)] 5
noncomputable abbrev symD (P : Params) (t0 t1 t2 tk : Tok) (nm : Value) : Obj := dictOf [dE P "kind" t0 (.str (Str.ofString "symbol") tk), dE P "name" t1 nm, dE P "attrs" t2 .none] 3
noncomputable abbrev nulD (P : Params) (t0 t1 tk : Tok) : Obj := dictOf [dE P "kind" t0 (.str (Str.ofString "NULL") tk), dE P "attrs" t1 .none] 2
noncomputable abbrev calD (P : Params) (t0 t1 t2 t3 t4 tk : Tok) (il tl : Value) : Obj := dictOf [dE P "kind" t0 (.str (Str.ofString "language") tk), dE P "items" t1 il, dE P "tags" t2 tl, dE P "attrs" t3 .none, dE P "code" t4 .none] 5
noncomputable abbrev cloD (P : Params) (t0 t1 t2 t3 t4 tk : Tok) (fo bo en : Value) : Obj := dictOf [dE P "kind" t0 (.str (Str.ofString "closure") tk), dE P "formals" t1 fo, dE P "body" t2 bo, dE P "env" t3 en, dE P "attrs" t4 .none] 5
noncomputable abbrev envD (P : Params) (t0 t1 t2 t3 t4 t5 t6 tk : Tok) (nu pa : Value) (fr lk : Addr) : Obj := dictOf [dE P "kind" t0 (.str (Str.ofString "environment") tk), dE P "number" t1 nu, dE P "parent" t2 pa, dE P "attrs" t3 .none, dE P "frame" t4 (.ref fr), dE P "locked" t5 (.bool false), dE P "locks" t6 (.ref lk)] 7

section
variable (w : World) (mg mb : Str → Option Value) (means : ExcName → Option Value) (news : List (Addr × Obj))
theorem vec_ct (k il : Value) : Ct w mg mb means 314 [k, il] 3 10 news (fun r l => ∃ x dx t0 t1 t2 t3 t4, r = .ref x ∧ l = (x, instObj 314 dx) :: (dx, vecD w.params t0 t1 t2 t3 t4 k il .none false) :: news ∧ (∀ p ∈ news, p.1 < dx) ∧ @LT.lt Nat _ dx x) := by
  refine ct_cls [Str.ofString "self", Str.ofString "kind", Str.ofString "items", Str.ofString "attrs"] [] [k, il, .none] (fun x => [some (.ref x), some k, some il, some .none]) (by k_is) (by k_is) (by k_is) (by k_is) (by k_is) (by decide +kernel)
    (fun x s X => binds_K X rfl (by k_is) rfl rfl rfl) (fun hi x => lv_ent (lv_ent (lv_ent (lv_ent (lv_nil _ 4) (hi 0 _ rfl) (by simp)) (hi 1 _ rfl) (by simp)) (hi 2 _ rfl) (by simp)) (hi 3 _ rfl) (by simp)) rfl rfl (by decide) ?_
  intro lo gl x dx hlt hlx dp un gd outer A₀ base g L h gs d t os B F X N T hdp hun
  have l0 := lo 0 _ rfl
  have l1 := lo 1 _ rfl
  have l2 := lo 2 _ rfl
  have l3 := lo 3 _ rfl
  have hne : x ≠ dx := Nat.ne_of_gt hlx
  have hall : ∀ p ∈ news, p.1 ≠ dx := fun p hp => Nat.ne_of_lt (hlt p hp)
  k_steps
  exact ⟨rfl, x, dx, _, _, _, _, _, rfl, rfl, hlt, hlx⟩
theorem nul_ct  : Ct w mg mb means 285 [] 3 10 news (fun r l => ∃ x dx t0 t1 tk, r = .ref x ∧ l = (x, instObj 285 dx) :: (dx, nulD w.params t0 t1 tk) :: news ∧ (∀ p ∈ news, p.1 < dx) ∧ @LT.lt Nat _ dx x) := by
  refine ct_cls [Str.ofString "self"] [] [] (fun x => [some (.ref x)]) (by k_is) (by k_is) (by k_is) (by k_is) (by k_is) (by decide +kernel)
    (fun x s X => BindsTo.of_eq rfl) (fun hi x => lv_ent (lv_nil _ 1) (hi 0 _ rfl) (by simp)) rfl rfl (by decide) ?_
  intro lo gl x dx hlt hlx dp un gd outer A₀ base g L h gs d t os B F X N T hdp hun
  have l0 := lo 0 _ rfl
  have hne : x ≠ dx := Nat.ne_of_gt hlx
  have hall : ∀ p ∈ news, p.1 ≠ dx := fun p hp => Nat.ne_of_lt (hlt p hp)
  k_steps
  exact ⟨rfl, x, dx, _, _, _, rfl, rfl, hlt, hlx⟩
theorem sym_ct (nm : Value) : Ct w mg mb means 335 [nm] 3 10 news (fun r l => ∃ x dx t0 t1 t2 tk, r = .ref x ∧ l = (x, instObj 335 dx) :: (dx, symD w.params t0 t1 t2 tk nm) :: news ∧ (∀ p ∈ news, p.1 < dx) ∧ @LT.lt Nat _ dx x) := by
  refine ct_cls [Str.ofString "self", Str.ofString "name"] [] [nm] (fun x => [some (.ref x), some nm]) (by k_is) (by k_is) (by k_is) (by k_is) (by k_is) (by decide +kernel)
    (fun x s X => BindsTo.of_eq rfl) (fun hi x => lv_ent (lv_ent (lv_nil _ 2) (hi 0 _ rfl) (by simp)) (hi 1 _ rfl) (by simp)) rfl rfl (by decide) ?_
  intro lo gl x dx hlt hlx dp un gd outer A₀ base g L h gs d t os B F X N T hdp hun
  have l0 := lo 0 _ rfl
  have l1 := lo 1 _ rfl
  have hne : x ≠ dx := Nat.ne_of_gt hlx
  have hall : ∀ p ∈ news, p.1 ≠ dx := fun p hp => Nat.ne_of_lt (hlt p hp)
  k_steps
  exact ⟨rfl, x, dx, _, _, _, _, rfl, rfl, hlt, hlx⟩
theorem cal_ct (il tl : Value) : Ct w mg mb means 357 [il, tl] 3 10 news (fun r l => ∃ x dx t0 t1 t2 t3 t4 tk, r = .ref x ∧ l = (x, instObj 357 dx) :: (dx, calD w.params t0 t1 t2 t3 t4 tk il tl) :: news ∧ (∀ p ∈ news, p.1 < dx) ∧ @LT.lt Nat _ dx x) := by
  refine ct_cls [Str.ofString "self", Str.ofString "items", Str.ofString "tags", Str.ofString "attrs"] [] [il, tl, .none] (fun x => [some (.ref x), some il, some tl, some .none]) (by k_is) (by k_is) (by k_is) (by k_is) (by k_is) (by decide +kernel)
    (fun x s X => binds_K X rfl (by k_is) rfl rfl rfl) (fun hi x => lv_ent (lv_ent (lv_ent (lv_ent (lv_nil _ 4) (hi 0 _ rfl) (by simp)) (hi 1 _ rfl) (by simp)) (hi 2 _ rfl) (by simp)) (hi 3 _ rfl) (by simp)) rfl rfl (by decide) ?_
  intro lo gl x dx hlt hlx dp un gd outer A₀ base g L h gs d t os B F X N T hdp hun
  have l0 := lo 0 _ rfl
  have l1 := lo 1 _ rfl
  have l2 := lo 2 _ rfl
  have l3 := lo 3 _ rfl
  have hne : x ≠ dx := Nat.ne_of_gt hlx
  have hall : ∀ p ∈ news, p.1 ≠ dx := fun p hp => Nat.ne_of_lt (hlt p hp)
  k_steps
  exact ⟨rfl, x, dx, _, _, _, _, _, _, rfl, rfl, hlt, hlx⟩
theorem clo_ct (fo bo en : Value) : Ct w mg mb means 379 [fo, bo, en] 3 10 news (fun r l => ∃ x dx t0 t1 t2 t3 t4 tk, r = .ref x ∧ l = (x, instObj 379 dx) :: (dx, cloD w.params t0 t1 t2 t3 t4 tk fo bo en) :: news ∧ (∀ p ∈ news, p.1 < dx) ∧ @LT.lt Nat _ dx x) := by
  refine ct_cls [Str.ofString "self", Str.ofString "formals", Str.ofString "body", Str.ofString "env", Str.ofString "attrs"] [] [fo, bo, en, .none] (fun x => [some (.ref x), some fo, some bo, some en, some .none]) (by k_is) (by k_is) (by k_is) (by k_is) (by k_is) (by decide +kernel)
    (fun x s X => binds_K X rfl (by k_is) rfl rfl rfl) (fun hi x => lv_ent (lv_ent (lv_ent (lv_ent (lv_ent (lv_nil _ 5) (hi 0 _ rfl) (by simp)) (hi 1 _ rfl) (by simp)) (hi 2 _ rfl) (by simp)) (hi 3 _ rfl) (by simp)) (hi 4 _ rfl) (by simp)) rfl rfl (by decide) ?_
  intro lo gl x dx hlt hlx dp un gd outer A₀ base g L h gs d t os B F X N T hdp hun
  have l0 := lo 0 _ rfl
  have l1 := lo 1 _ rfl
  have l2 := lo 2 _ rfl
  have l3 := lo 3 _ rfl
  have l4 := lo 4 _ rfl
  have hne : x ≠ dx := Nat.ne_of_gt hlx
  have hall : ∀ p ∈ news, p.1 ≠ dx := fun p hp => Nat.ne_of_lt (hlt p hp)
  k_steps
  exact ⟨rfl, x, dx, _, _, _, _, _, _, rfl, rfl, hlt, hlx⟩
theorem env_ct (nu pa : Value) : Ct w mg mb means 401 [nu, pa] 3 10 news (fun r l => ∃ x dx fr lk o1 o2 t0 t1 t2 t3 t4 t5 t6 tk, r = .ref x ∧ l = (lk, o2) :: (fr, o1) :: (x, instObj 401 dx) :: (dx, envD w.params t0 t1 t2 t3 t4 t5 t6 tk nu pa fr lk) :: news ∧
    (∀ p ∈ news, p.1 < dx) ∧ @LT.lt Nat _ dx x ∧ @LT.lt Nat _ x fr ∧ @LT.lt Nat _ fr lk ∧ (fr == sysModules) = false ∧ Obj.IsDictOf (PySem.strKind PySem.Challenge.rw_nz0498_01.row.prog w) o1 []) := by
  refine ct_cls [Str.ofString "self", Str.ofString "number", Str.ofString "parent", Str.ofString "attrs"] [] [nu, pa, .none] (fun x => [some (.ref x), some nu, some pa, some .none]) (by k_is) (by k_is) (by k_is) (by k_is) (by k_is) (by decide +kernel)
    (fun x s X => binds_K X rfl (by k_is) rfl rfl rfl) (fun hi x => lv_ent (lv_ent (lv_ent (lv_ent (lv_nil _ 4) (hi 0 _ rfl) (by simp)) (hi 1 _ rfl) (by simp)) (hi 2 _ rfl) (by simp)) (hi 3 _ rfl) (by simp)) rfl rfl (by decide) ?_
  intro lo gl x dx hlt hlx dp un gd outer A₀ base g L h gs d t os B F X N T hdp hun
  have l0 := lo 0 _ rfl
  have l1 := lo 1 _ rfl
  have l2 := lo 2 _ rfl
  have l3 := lo 3 _ rfl
  have hne : x ≠ dx := Nat.ne_of_gt hlx
  have hall : ∀ p ∈ news, p.1 ≠ dx := fun p hp => Nat.ne_of_lt (hlt p hp)
  k_steps
  exact ⟨rfl, x, dx, _, _, _, _, _, _, _, _, _, _, _, _, rfl, rfl, hlt, hlx, by omega, by omega, by assumption, by assumption⟩
end
section
local macro_rules | `(tactic| walk_at "exec For") => `(tactic| (k_here; (rename Fr _ _ _ _ => lF'); (with_unfolding_all refine' For_invVF lF' ?k1 ?k2 ?_; (case k1 => exact rfl); (case k2 => exact rfl); k_whole)))
local macro_rules | `(tactic| walk_at "pyIter ref") => `(tactic| refine stop_here ?_)
local macro_rules | `(tactic| walk_at "exec While") => `(tactic| refine stop_here ?_)
theorem append_L {w : World} {prog : Program} {A : Around} {E : Value → Shared → Prop} {h₀ h : Heap} {L D : Addr} {g : Array GenState} {d : Drawn} {t : Nat} {os : OsState} {m : Str → Option Value} {q : Addr × Obj} {tl : List (Addr × Obj)} {its : List Value} {n : Nat} {x : Value} {Q : Value → Shared → Prop} (F : Fr h₀ L h m) (N : News h₀ L h (q :: (D, listOf its.toArray n) :: tl)) (hq : q.1 ≠ D) (ht : ∀ p ∈ tl, p.1 ≠ D) (hz : its.length ≤ 100000)
    (k : ∀ h', Fr h₀ L h' m → News h₀ L h' (q :: (D, listOf (its ++ [x]).toArray (n + 1)) :: tl) → Q .none ⟨h', g, d, t, os⟩) : wpAny (model prog w) A (call (.builtin "list.append") [.ref D, x]) Q E ⟨h, g, d, t, os⟩ := by
  refine append_K (s := ⟨h, g, d, t, os⟩) F N (.tail hq (.head ht)) (fun h' F' N' => k h' F' ?_) (by rw [sizeLine_eq]; simp only [List.size_toArray]; omega)
  have e : its.toArray.push x = (its ++ [x]).toArray := by simp
  rw [e] at N'; exact N'
theorem reverse_L {w : World} {prog : Program} {A : Around} {E : Value → Shared → Prop} {h₀ h : Heap} {L D : Addr} {g : Array GenState} {d : Drawn} {t : Nat} {os : OsState} {m : Str → Option Value} {tl : List (Addr × Obj)} {its : List Value} {n : Nat} {Q : Value → Shared → Prop} (F : Fr h₀ L h m) (N : News h₀ L h ((D, listOf its.toArray n) :: tl)) (ht : ∀ p ∈ tl, p.1 ≠ D) (hz : its.length ≤ 100000)
    (k : ∀ h', Fr h₀ L h' m → News h₀ L h' ((D, listOf its.reverse.toArray n) :: tl) → Q .none ⟨h', g, d, t, os⟩) : wpAny (model prog w) A (call (.builtin "list.reverse") [.ref D]) Q E ⟨h, g, d, t, os⟩ :=
  kl_reverse (s := ⟨h, g, d, t, os⟩) F N rfl (.head ht) (by rw [sizeLine_eq]; show its.length ≤ 16777216; omega) k
local macro_rules | `(tactic| walk_at "call builtin:list.reverse") => `(tactic| refine stop_here ?_)
local macro_rules | `(tactic| walk_at "call builtin:list.append") => `(tactic| (k_dflt (refine' append_L ?k1 ?k2 ?k3 ?k4 ?z ?_; (case k1 => k_asm); (case k2 => k_asm); (case k3 => assumption); (case k4 => assumption); (case z => omega); k_whole); intro h' F' N'; (try k_sweep)))
noncomputable def DrJ (ns : List Str) (sc row : Addr) (k : Nat) (m : Str → Option Value) (nx : List (Addr × Obj)) (D : Addr) (ws : List Value) (rest : List (Addr × Obj)) : Prop :=
  ∃ its xs n3 cv rv lv', m = lv ns [some (.ref sc), some (.ref row), cv, rv, lv', none] ∧ nx = (D, listOf ws.toArray 0) :: (row, listOf its.toArray n3) :: rest ∧ IntsAre its xs ∧ its.length ≤ k ∧ ∀ x ∈ xs, 0 ≤ x ∧ x < 660
noncomputable def DrW (ns : List Str) (sc row : Addr) (c : Value) (j : Nat) (n : Nat) (m : Str → Option Value) (nx : List (Addr × Obj)) (D : Addr) (ws : List Value) (rest : List (Addr × Obj)) : Prop :=
  ∃ its xs n3 r tr k tk, m = lv ns [some (.ref sc), some (.ref row), some c, some (.int r tr), some (.int k tk), none] ∧ nx = (D, listOf ws.toArray 0) :: (row, listOf its.toArray n3) :: rest ∧ IntsAre its xs ∧ 0 ≤ k ∧ k + n = 40 ∧ (its.length : Int) ≤ j + k ∧ ∀ x ∈ xs, 0 ≤ x ∧ x < 660
theorem draws_done {st rw : Addr} {its : List Value} {xs : List Int} {sd : Int} {tk : Tok} {n n' : Nat} {q1 q2 : Addr × Obj} {rest : List (Addr × Obj)} (hI : IntsAre its xs) (hl : its.length ≤ 5000) (hrow : ∀ x ∈ xs, 0 ≤ x ∧ x < 660) (h0 : 0 ≤ sd) (h1 : sd < 1013) (lt : @LT.lt Nat _ rw st) (a : AllLt rw rest) (b : AllLt st rest) :
    ∃ st' rw' S, (Value.ref st) = .ref st' ∧ StD.Ok S st' rw' ∧ AllLt rw' rest ∧ AllLt st' rest ∧ ∀ p ∈ StD.led S st' rw' ++ rest, p ∈ ((st, listOf #[.ref rw, .int sd tk] n) :: (rw, listOf its.toArray n') :: q1 :: q2 :: rest) :=
  ⟨st, rw, ⟨its, xs, sd, tk, n, n'⟩, rfl, ⟨hI, hl, hrow, h0, h1, lt⟩, a, b, fun p hp => by
    rcases List.mem_append.mp hp with hp | hp
    · rcases List.mem_cons.mp hp with rfl | hp
      · exact .head _
      · rw [List.mem_singleton.mp hp]
        exact .tail _ (.head _)
    · exact .tail _ (.tail _ (.tail _ (.tail _ hp)))⟩
theorem draws_ct (w : World) (mg mb : Str → Option Value) (means : ExcName → Option Value) {sc : Addr} {svs : List Value} {sns : List Int} {rest : List (Addr × Obj)} (SC : ScOk svs sns) :
    CtB w mg mb means [(sc, svs)] 555 [.ref sc] 8 40 rest (fun r news' => ∃ st rw S, r = .ref st ∧ StD.Ok S st rw ∧ AllLt rw rest ∧ AllLt st rest ∧ ∀ p ∈ StD.led S st rw ++ rest, p ∈ news') := by
  refine ct_enter [Str.ofString "script", Str.ofString "row", Str.ofString "cell", Str.ofString "rest", Str.ofString "lap", Str.ofString "seed"] [Str.ofString "abs", Str.ofString "int", Str.ofString "len"] [some (.ref sc), none, none, none, none, none] (by k_is) (by k_is) (by decide +kernel) (fun _ => BindsTo.of_eq rfl) (fun hi => lv_ent (lv_nil _ 6) (hi 0 _ rfl) (by simp)) rfl rfl (by decide) ?_
  intro lo gl dp un gd outer A₀ base g L h gs d t os B F X N T hbl hdp hun
  have l0 := lo 0 _ rfl
  have l1 := lo 1 _ rfl
  have l2 := lo 2 _ rfl
  have l3 := lo 3 _ rfl
  have l4 := lo 4 _ rfl
  have l5 := lo 5 _ rfl
  have g0 := gl 0 _ rfl
  have g1 := gl 1 _ rfl
  have g2 := gl 2 _ rfl
  clear lo gl
  have hsc := hbl _ (.head _)
  have hI := SC.hInts
  have hL1 := SC.hLen
  have hLay := SC.hLay
  k_steps
  rename_i row h0 lt1 h1 D ws h2 F' N' hI' hC' hL' lt2
  unfold Stop
  refine iter_invNL (nn := 0) (m₀ := lv [Str.ofString "script", Str.ofString "row", Str.ofString "cell", Str.ofString "rest", Str.ofString "lap", Str.ofString "seed"] [some (.ref sc), some (.ref row), none, none, none, none]) (news := (D, listOf ws.toArray 0) :: (row, listOf #[] 0) :: rest) (fun i m nx => DrJ [Str.ofString "script", Str.ofString "row", Str.ofString "cell", Str.ofString "rest", Str.ofString "lap", Str.ofString "seed"] sc row (40 * i) m nx D ws rest) ?hh ?hl hI' ?hF ?hN ?hj ?turn ?done
  case hh => rfl
  case hl => exact .head _
  case hF => exact F'
  case hN => exact N'
  case hj => exact ⟨[], [], 0, none, none, none, rfl, rfl, .nil, by simp, fun _ h => nomatch h⟩
  case turn =>
    clear F' N'
    rintro i n t m₁ news₁ h tk own hn hadr hoff hmem ⟨its, xs, n3, cv, rv, lv', rfl, rfl, hI₂, hlen, hrow⟩ F₂ N₂
    rw [lv_set l2.hI (by simp)] at F₂
    dsimp only [List.set] at F₂
    simp only [List.cons_append] at N₂
    k_steps
    all_goals
      unfold Stop
      rename Fr _ _ _ _ => F₃
      rename News _ _ _ _ => N₃
      refine' While_inv (h₀ := g) (L := L) (fun k m nx => DrW [Str.ofString "script", Str.ofString "row", Str.ofString "cell", Str.ofString "rest", Str.ofString "lap", Str.ofString "seed"] sc row (.int n t) (40 * i) k m nx D ws (rest ++ own)) (n₀ := 40) ?F ?N ?hJ ?turn ?hE
      case F => exact F₃
      case N => exact N₃
      case hJ => exact ⟨its, xs, n3, _, _, _, _, rfl, rfl, hI₂, by decide, by decide, by omega, hrow⟩
      case hE => passes_own
      case turn =>
        clear F₃ N₃
        rintro n2 m₁ news₁ h₁ tk₁ F₄ N₄ ⟨its, xs, n3, r, tr, k, tkk, rfl, rfl, hI₃, hk0, hkn, hlen, hrow⟩
        have hne : ∀ p ∈ rest ++ own, p.1 ≠ row := fun p hp => (List.mem_append.mp hp).elim (fun h => Nat.ne_of_lt (allLt_mem lt1 p h)) fun h => hoff p h row (.tail _ (.head _))
        have hDr : D ≠ row := Nat.ne_of_gt lt2.1
        have hil := hI₃.length
        have hi2 := (List.getElem?_eq_some_iff.mp hn).1
        have hi3 : 40 * i ≤ 1920 := by rw [hC'] at hi2; omega
        have hlen2 : its.length ≤ 100000 := by omega
        k_steps
        all_goals
          rename Fr _ _ _ _ => F₅
          rename News _ _ _ _ => N₅
          first
            | exact InvEndN.intro F₅ N₅ ⟨.head _, its, xs, n3, _, _, _, rfl, rfl, hI₃, by omega, hrow⟩ rfl (fun p hp => by
                rcases List.mem_cons.mp hp with rfl | hp
                · exact .head _
                · rcases List.mem_cons.mp hp with rfl | hp
                  · exact .tail _ (.head _)
                  · exact .tail _ (.tail _ (List.mem_append_left _ hp))) fun p hp => .tail _ (.tail _ (List.mem_append_right _ hp))
            | exact WhileStep.intro (n' := n2 - 1) F₅ N₅ (by omega) ⟨its ++ [.int (r.fmod 660) _], xs ++ [r.fmod 660], _, _, _, _, _, rfl, rfl, hI₃.append (.cons _ _ .nil), by omega, by omega, by rw [List.length_append]; simp only [List.length_cons, List.length_nil]; omega, fun x hx => by
                rcases List.mem_append.mp hx with hx | hx
                · exact hrow x hx
                · rw [List.mem_singleton.mp hx]
                  exact ⟨Int.fmod_nonneg_of_pos _ (by decide), Int.fmod_lt_of_pos _ (by decide)⟩⟩
  case done =>
    clear F' N'
    rintro m₁ news₁ h tk hmem ⟨its, xs, n3, cv, rv, lv', rfl, rfl, hI₂, hlen, hrow⟩ F₂ N₂
    have hlen3 : its.length ≤ 1920 := by omega
    k_steps
    rename_i D₂ ws₂ h₃ F₄ N₄ hI₄ hC₄ hL₄ lt3 h₄ F₅ N₅
    unfold Stop
    dsimp only
    refine reverse_L F₅ N₅ (fun p hp => Nat.ne_of_lt ?_) ?_ fun h₅ F₆ N₆ => ?_
    · rcases List.mem_cons.mp hp with rfl | hp
      · exact lt3.1
      · rcases List.mem_cons.mp hp with rfl | hp
        · exact lt3.2.1
        · exact allLt_mem lt3.2.2 p hp
    · have := hI₄.length; rw [this, List.length_take]; omega
    clear F₅ N₅
    k_steps
    all_goals
      rename_i lt4
      unfold Done
      refine draws_done (PyProof.Rows.IntsAre.reverse hI₄) ?_ (fun x hx => hrow x (List.take_subset _ _ (List.mem_reverse.mp hx))) ?_ ?_ lt4.1 lt3.2.2 lt4.2.2.2
      · have := hI₄.length; rw [List.length_reverse, this, List.length_take]; omega
      · first
          | decide
          | exact Int.add_nonneg (by decide) (Int.fmod_nonneg_of_pos _ (by decide))
      · first
          | decide
          | exact Int.lt_of_lt_of_le (Int.add_lt_add_left (Int.fmod_lt_of_pos _ (by decide)) _) (by decide)
end
section
variable (w : World) (mg mb : Str → Option Value) (means : ExcName → Option Value) {st rw : Addr} {S : StD} {sc : Addr} {svs : List Value} {sns : List Int} {rest : List (Addr × Obj)}
theorem item_log (OK : S.Ok st rw) (SC : ScOk svs sns) (hr : ∀ p ∈ rest, p.1 ≠ st ∧ p.1 ≠ rw) (kt : Tok) :
    CtB w mg mb means [(sc, svs)] 567 [.ref st, .str (Str.ofString "logical") kt, .ref sc] 4 40 (S.led st rw ++ rest) (fun r news' => ∃ tl S' i, Above st tl ∧ ItIn rest tl r i ∧ OkLog i ∧ StD.Ok S' st rw ∧ ∀ p ∈ tl ++ (StD.led S' st rw ++ rest), p ∈ news') := by
  refine ct_enter [Str.ofString "state", Str.ofString "kind", Str.ofString "script", Str.ofString "draw", Str.ofString "cells", Str.ofString "words"] [Str.ofString "_law_take", Str.ofString "len"] [some (.ref st), some (.str (Str.ofString "logical") kt), some (.ref sc), none, none, none] (by k_is) (by k_is) (by decide +kernel) (fun _ => BindsTo.of_eq rfl) (fun hi => lv_ent (lv_ent (lv_ent (lv_nil _ 6) (hi 0 _ rfl) (by simp)) (hi 1 _ rfl) (by simp)) (hi 2 _ rfl) (by simp)) rfl rfl (by decide) ?_
  intro lo gl dp un gd outer A₀ base g L h gs d t os B F X N T hbl hdp hun
  have l0 := lo 0 _ rfl
  have l1 := lo 1 _ rfl
  have l2 := lo 2 _ rfl
  have l3 := lo 3 _ rfl
  have l4 := lo 4 _ rfl
  have l5 := lo 5 _ rfl
  have g0 := gl 0 _ rfl
  have g1 := gl 1 _ rfl
  clear lo gl
  have hsc := hbl _ (.head _)
  have hI := SC.hInts
  have hL1 := SC.hLen
  have hLay := SC.hLay
  k_steps
  all_goals unfold Done
  · exact ⟨[], _, .none, Above.nil, rfl, .inl rfl, by assumption, fun p hp => hp⟩
  · rename_i x' _ _ _ _ _ _ _ _ _
    have hx : x'.fmod 2 = 0 ∨ x'.fmod 2 = 1 := by
      have h1 := Int.fmod_nonneg_of_pos x' (show (0 : Int) < 2 by decide)
      have h2 := Int.fmod_lt_of_pos x' (show (0 : Int) < 2 by decide)
      omega
    rcases hx with e | e
    · exact ⟨[], _, .int 0, Above.nil, ⟨_, by rw [e]⟩, .inr (.inl rfl), by assumption, fun p hp => hp⟩
    · exact ⟨[], _, .int 1, Above.nil, ⟨_, by rw [e]⟩, .inr (.inr rfl), by assumption, fun p hp => hp⟩
end
section
local macro_rules | `(tactic| walk_at "ite") => `(tactic| ((with_reducible show (if (Str.ofString "character" == Str.ofString "double") = true then _ else _)); refine stop_here ?_))
variable (w : World) (mg mb : Str → Option Value) (means : ExcName → Option Value) {st rw : Addr} {S : StD} {sc : Addr} {svs : List Value} {sns : List Int} {rest : List (Addr × Obj)}
theorem item_chr (OK : S.Ok st rw) (SC : ScOk svs sns) (hr : ∀ p ∈ rest, p.1 ≠ st ∧ p.1 ≠ rw) (kt : Tok) :
    CtB w mg mb means [(sc, svs)] 567 [.ref st, .str (Str.ofString "character") kt, .ref sc] 4 40 (S.led st rw ++ rest) (fun r news' => ∃ tl S' i, Above st tl ∧ ItIn rest tl r i ∧ OkChr i ∧ StD.Ok S' st rw ∧ ∀ p ∈ tl ++ (StD.led S' st rw ++ rest), p ∈ news') := by
  refine ct_enter [Str.ofString "state", Str.ofString "kind", Str.ofString "script", Str.ofString "draw", Str.ofString "cells", Str.ofString "words"] [Str.ofString "_law_take", Str.ofString "len"] [some (.ref st), some (.str (Str.ofString "character") kt), some (.ref sc), none, none, none] (by k_is) (by k_is) (by decide +kernel) (fun _ => BindsTo.of_eq rfl) (fun hi => lv_ent (lv_ent (lv_ent (lv_nil _ 6) (hi 0 _ rfl) (by simp)) (hi 1 _ rfl) (by simp)) (hi 2 _ rfl) (by simp)) rfl rfl (by decide) ?_
  intro lo gl dp un gd outer A₀ base g L h gs d t os B F X N T hbl hdp hun
  have l0 := lo 0 _ rfl
  have l1 := lo 1 _ rfl
  have l2 := lo 2 _ rfl
  have l3 := lo 3 _ rfl
  have l4 := lo 4 _ rfl
  have l5 := lo 5 _ rfl
  have g0 := gl 0 _ rfl
  have g1 := gl 1 _ rfl
  clear lo gl
  have hsc := hbl _ (.head _)
  have hI := SC.hInts
  have hL1 := SC.hLen
  have hLay := SC.hLay
  k_steps
  · unfold Done
    exact ⟨[], _, .none, Above.nil, rfl, .inl rfl, by assumption, fun p hp => hp⟩
  · unfold Stop
    generalize hq : Str.ofString "double" = q
    refine ite_false' (fun h => ?_) ?_
    · have h2 := eq_of_beq h
      rw [← hq] at h2
      exact absurd h2 (by decide +kernel)
    k_steps
    rename _ ∈ _ => hv
    unfold Done
    simp only [List.mem_cons, List.not_mem_nil, or_false] at hv
    rcases hv with rfl | rfl | rfl | rfl | rfl | rfl | rfl | rfl | rfl | rfl | rfl | rfl | rfl
    all_goals exact ⟨[], _, .str _, Above.nil, ⟨_, rfl⟩, .inr ⟨_, rfl, by decide +kernel⟩, by assumption, fun p hp => .tail _ hp⟩
end
section
variable {w : World} {A : Around} {E : Value → Shared → Prop} {h g : Heap} {gs : Array GenState} {d : Drawn} {t : Nat} {os : OsState} {m : Str → Option Value} {x : Str} {pos : Pos} {Q : Value → Shared → Prop} {L : Addr} {mg mb : Str → Option Value} {means : ExcName → Option Value}
theorem gbC {v : Value} {sc : Scope} {Cc : Addr} {env : Env} (he : env.globals = mainGlobals) (hb : env.builtins = builtinsNs) (hk : sc.kind = .function) (hx : sc.names.lookup x = some .globalImplicit) (hdb : (x == ("__debug__" : Str)) = false) (gb : GB w.params x v) (F : Fr g L h m) (X : (hd.heap_1 w.params).In g) (T : Top hd.view_39 (looseW hd.view_39 [Str.ofString "number_text"]) means mg mb g) (k : Q v ⟨h, gs, d, t, os⟩) :
    wpAny (model PySem.Challenge.rw_nz0498_01.row.prog w) A (eval (.Name x pos) (compEnv sc Cc env)) Q E ⟨h, gs, d, t, os⟩ :=
  Name_function_global (env := compEnv sc Cc env) hk hx (loadGlobal_builtin (env := compEnv sc Cc env) (by show h.Ns env.globals _; rw [he]; exact T.g.keeps F.keep) (mg_none_of X T.g gb.hG) (by show h.Ns env.builtins _; rw [hb]; exact T.b.keeps F.keep) ((T.builtins x gb.hN).trans gb.hB) k) hdb
theorem ncC {v : Value} {sc : Scope} {Cc : Addr} {env : Env} {m₂ : Str → Option Value} (hk : sc.kind = .function) (hx : sc.names.lookup x = some .local) (hd : (x == ("__debug__" : Str)) = false) (hn : h.Ns Cc m₂) (hm : m₂ x = some v) (k : Q v ⟨h, gs, d, t, os⟩) :
    wpAny (model PySem.Challenge.rw_nz0498_01.row.prog w) A (eval (.Name x pos) (compEnv sc Cc env)) Q E ⟨h, gs, d, t, os⟩ := wpAny_Name (s := ⟨h, gs, d, t, os⟩) (wpAny_loadName_local (env := compEnv sc Cc env) hk hx hn hm k) hd
end
theorem led_lt {g h : Heap} {L st rw : Addr} {S : StD} {a b : Addr × Obj} {rest : List (Addr × Obj)} (N : News g L h (a :: b :: (S.led st rw ++ rest))) : @LT.lt Nat _ st h.objs.size :=
  Heap.lt_size (N (st, _) (.tail _ (.tail _ (List.mem_append_left _ (by unfold StD.led; exact .head _))))).1
theorem news_drop2 {g h : Heap} {L a : Addr} {o : Obj} {b c : Addr × Obj} {l : List (Addr × Obj)} (N : News g L h ((a, o) :: b :: c :: l)) : News g L h ((a, o) :: l) := fun p hp => N p ((List.mem_cons.mp hp).elim (fun e => e ▸ .head _) fun h => .tail _ (.tail _ (.tail _ h)))
theorem len_led {w : World} {prog : Program} {A : Around} {E : Value → Shared → Prop} {h₀ h : Heap} {L D : Addr} {g : Array GenState} {d : Drawn} {t : Nat} {os : OsState} {tl : List (Addr × Obj)} {its : List Value} {n : Nat} {Q : Value → Shared → Prop} (N : News h₀ L h ((D, listOf its.toArray n) :: tl)) (hz : its.length ≤ 100000)
    (k : ∀ u t', Q (.int (its.length : Nat) u) ⟨h, g, d, t', os⟩) : wpAny (model prog w) A (call (.builtin "len") [.ref D]) Q E ⟨h, g, d, t, os⟩ := by
  have hL : h.IsList D its.toArray := ⟨_, (N _ (.head _)).1, rfl, n, rfl⟩
  exact PyProof.Rows.len_list (s := ⟨h, g, d, t, os⟩) hL (by rw [List.size_toArray]; omega) (k _ _)
theorem cells_in {g h : Heap} {L R : Addr} {t u : Tok} {yl : List Value} {l : List (Addr × Obj)} (N : News g L h ((R, { cls := .type "list", data := .seq ([Value.int 0 t, Value.int 1 u] ++ yl).toArray }) :: l)) (hv : ∀ v ∈ yl, ∃ x u, v = Value.int x u ∧ x.natAbs < 2 ^ 62) :
    ∃ its : List Value, News g L h ((R, listOf its.toArray 0) :: l) ∧ its.length = 2 + yl.length ∧ ∀ v ∈ its, ∃ x u, v = Value.int x u ∧ x.natAbs < 2 ^ 62 :=
  ⟨_, N, by simp; omega, fun v h => by
    rcases List.mem_append.mp h with h | h
    · rcases List.mem_cons.mp h with rfl | h
      · exact ⟨_, _, rfl, by decide⟩
      · rw [List.mem_singleton.mp h]; exact ⟨_, _, rfl, by decide⟩
    · exact hv v h⟩
noncomputable def CellV (_ v : Value) : Prop := ∃ x u, v = .int x u ∧ x.natAbs < 2 ^ 62
section
local macro_rules | `(tactic| walk_at "eval ListComp") => `(tactic| refine stop_here ?_)
local macro_rules | `(tactic| walk_at "subscriptTail") => `(tactic| ((with_reducible show wpAny _ _ (subscriptTail _ _ (Value.ref _) (Value.int _ _)) _ _ _); refine stop_here ?_))
local macro_rules | `(tactic| walk_at "call builtin:len") => `(tactic| (refine len_led (by assumption) (by omega) ?_; intro _ _))
local macro_rules | `(tactic| walk_at "Exists") => `(tactic| refine stop_here ?_)
local macro_rules | `(tactic| walk_at "eval Name") => `(tactic| ((with_reducible show wpAny _ _ (eval (PySem.Expr.Name _ _) (compEnv _ _ _)) _ _ _); first
  | (refine gbC rfl rfl rfl rfl rfl (by ktr_unf) (by assumption) (by assumption) (by assumption) ?_)
  | (refine ncC rfl rfl rfl (by assumption) (by assumption) ?_)))
variable (w : World) (mg mb : Str → Option Value) (means : ExcName → Option Value) {st rw : Addr} {S : StD} {sc : Addr} {svs : List Value} {sns : List Int} {rest : List (Addr × Obj)}
theorem item_int (OK : S.Ok st rw) (SC : ScOk svs sns) (hr : ∀ p ∈ rest, p.1 ≠ st ∧ p.1 ≠ rw) (kt : Tok) :
    CtB w mg mb means [(sc, svs)] 567 [.ref st, .str (Str.ofString "integer") kt, .ref sc] 4 40 (S.led st rw ++ rest) (fun r news' => ∃ tl S' i, Above st tl ∧ ItIn rest tl r i ∧ OkInt i ∧ StD.Ok S' st rw ∧ ∀ p ∈ tl ++ (StD.led S' st rw ++ rest), p ∈ news') := by
  refine ct_enter [Str.ofString "state", Str.ofString "kind", Str.ofString "script", Str.ofString "draw", Str.ofString "cells", Str.ofString "words"] [Str.ofString "_law_take", Str.ofString "len"] [some (.ref st), some (.str (Str.ofString "integer") kt), some (.ref sc), none, none, none] (by k_is) (by k_is) (by decide +kernel) (fun _ => BindsTo.of_eq rfl) (fun hi => lv_ent (lv_ent (lv_ent (lv_nil _ 6) (hi 0 _ rfl) (by simp)) (hi 1 _ rfl) (by simp)) (hi 2 _ rfl) (by simp)) rfl rfl (by decide) ?_
  intro lo gl dp un gd outer A₀ base g L h gs d t os B F X N T hbl hdp hun
  have l0 := lo 0 _ rfl
  have l1 := lo 1 _ rfl
  have l2 := lo 2 _ rfl
  have l3 := lo 3 _ rfl
  have l4 := lo 4 _ rfl
  have l5 := lo 5 _ rfl
  have g0 := gl 0 _ rfl
  have g1 := gl 1 _ rfl
  clear lo gl
  have hsc := hbl _ (.head _)
  have hI := SC.hInts
  have hL1 := SC.hLen
  have hLay := SC.hLay
  k_steps
  · unfold Done
    exact ⟨[], _, .none, Above.nil, rfl, .inl rfl, by assumption, fun p hp => hp⟩
  · unfold Stop
    dsimp only
    refine wpAny_ListComp_map (fun _ => true) CellV rfl (by decide) (by decide) rfl (by decide) rfl ?_
    k_steps
    unfold Stop
    rename_i D₁ ws₁ h₁ F₁ N₁ hI₁ hC₁ hL₁ lt₁
    have hl₁ := hI₁.length
    refine ⟨D₁, ws₁.toArray, rfl, ⟨_, (N₁ _ (.head _)).1, rfl, 0, rfl⟩, ?_, ?_, ?_, ?_⟩
    · rw [sizeLine_eq, List.size_toArray, hl₁, hC₁]; omega
    · intro C v s₂ m₂ E' _ _ _ _
      exact wpAny_pure ⟨rfl, _, _, rfl, fun _ _ e => e⟩
    · rintro C v ⟨h₂, g₂, d₂, t₂, os₂⟩ m₂ E' hv _ hn hm hk
      obtain ⟨n, u, rfl⟩ := hI₁.all v (by simpa using hv)
      have F₂ := F₁.keeps hk
      clear F₁ N₁
      dsimp only at hn F₂ ⊢
      k_steps
      · refine ⟨_, _, rfl, ?_⟩
        have e1 : (10 : Int) ^ Int.toNat 9 = 1000000000 := by decide +kernel
        rw [e1]
        have b1 := Int.fmod_nonneg_of_pos (if n < 0 then -n else n) (show (0 : Int) < 4 * 1000000000 by decide)
        have b2 := Int.fmod_lt_of_pos (if n < 0 then -n else n) (show (0 : Int) < 4 * 1000000000 by decide)
        omega
      · exact ⟨_, _, rfl, fun _ _ e => e⟩
    · intro D₂ h₂ tk₂ ys hnew hl hp hk
      have F₂ := F₁.keeps hk
      have N₂ := N₁.grown hk
      clear F₁ N₁
      dsimp only
      obtain ⟨yl, rfl⟩ : ∃ yl : List Value, ys = yl.toArray := ⟨ys.toList, by simp⟩
      have hyl : yl.length = ws₁.length := by
        have := hp.length
        rw [List.filter_eq_self.mpr (fun _ _ => rfl)] at this
        simpa using this.symm
      have hv : ∀ v ∈ yl, ∃ x u, v = .int x u ∧ x.natAbs < 2 ^ 62 := fun v hv => by
        obtain ⟨_, q⟩ := hp.right v (by simpa using hv)
        exact q
      rename_i l₁ _ _ _ _ _
      refine add_lists (vs := [_, _]) (ws := yl) F₂ N₂ ⟨_, (N₂ _ (.tail _ (.head _))).1, rfl, 0, rfl⟩ hl (fun h₃ F₃ N₃ => ?_) (by rw [sizeLine_eq]; show 2 + yl.length ≤ _; omega)
      dsimp only at N₃ ⊢
      have hst := led_lt N₂
      obtain ⟨its, N₄, hlen, hall⟩ := cells_in (news_drop2 N₃) hv
      clear N₃ N₂ F₂
      generalize h₂.objs.size = R at N₄ hst ⊢
      have hl2 : 2 ≤ its.length ∧ its.length ≤ 5 := by omega
      k_steps
      unfold Stop
      rename News _ _ _ _ => N₅
      rename Fr _ _ _ _ => F₅
      refine item_any N₅ (.head _) (by omega) (by omega) (by omega) (fun v hv => ?_)
      obtain ⟨x, u, rfl, hx⟩ := hall v hv
      exact lv_ret F₅ N₅ ⟨[], _, .int x, Above.nil, ⟨u, rfl⟩, .inr ⟨x, rfl, hx⟩, by assumption, fun p hp => .tail _ hp⟩
end
theorem dbl_end {st rw r : Addr} {S' : StD} {n d : Int} {t1 t2 : Tok} {rest news : List (Addr × Obj)} (OK : S'.Ok st rw) (m : (r, tupA #[.int n t1, .int d t2] 0) ∈ news) (sub : ∀ p ∈ S'.led st rw ++ rest, p ∈ news) (h1 : @LT.lt Nat _ st r) (h2 : AllLt r rest) (h3 : (n, d) ∈ [((1 : Int), (2 : Int)), (0, 1), (0, 0), (1, 0), (-1, 0), (-3, 1), (7, 1000000000)]) :
    ∃ tl S' i, Above st tl ∧ ItIn rest tl (.ref r) i ∧ OkDbl i ∧ StD.Ok S' st rw ∧ ∀ p ∈ tl ++ (StD.led S' st rw ++ rest), p ∈ news :=
  ⟨[(r, tupA #[.int n t1, .int d t2] 0)], S', .rat n d, Above.cons h1 Above.nil, ⟨r, t1, t2, rfl, .head _, h2⟩, .inr ⟨n, d, rfl, h3⟩, OK, fun p hp => by
    rcases List.mem_cons.mp hp with rfl | hp
    · exact m
    · exact sub p hp⟩
section
local macro_rules | `(tactic| walk_at "ite") => `(tactic| ((with_reducible show (if (Str.ofString "double" == Str.ofString "double") = true then _ else _)); refine stop_here ?_))
variable (w : World) (mg mb : Str → Option Value) (means : ExcName → Option Value) {st rw : Addr} {S : StD} {sc : Addr} {svs : List Value} {sns : List Int} {rest : List (Addr × Obj)}
theorem item_dbl (OK : S.Ok st rw) (SC : ScOk svs sns) (hr : ∀ p ∈ rest, p.1 ≠ st ∧ p.1 ≠ rw) (kt : Tok) :
    CtB w mg mb means [(sc, svs)] 567 [.ref st, .str (Str.ofString "double") kt, .ref sc] 4 40 (S.led st rw ++ rest) (fun r news' => ∃ tl S' i, Above st tl ∧ ItIn rest tl r i ∧ OkDbl i ∧ StD.Ok S' st rw ∧ ∀ p ∈ tl ++ (StD.led S' st rw ++ rest), p ∈ news') := by
  refine ct_enter [Str.ofString "state", Str.ofString "kind", Str.ofString "script", Str.ofString "draw", Str.ofString "cells", Str.ofString "words"] [Str.ofString "_law_take", Str.ofString "len"] [some (.ref st), some (.str (Str.ofString "double") kt), some (.ref sc), none, none, none] (by k_is) (by k_is) (by decide +kernel) (fun _ => BindsTo.of_eq rfl) (fun hi => lv_ent (lv_ent (lv_ent (lv_nil _ 6) (hi 0 _ rfl) (by simp)) (hi 1 _ rfl) (by simp)) (hi 2 _ rfl) (by simp)) rfl rfl (by decide) ?_
  intro lo gl dp un gd outer A₀ base g L h gs d t os B F X N T hbl hdp hun
  have l0 := lo 0 _ rfl
  have l1 := lo 1 _ rfl
  have l2 := lo 2 _ rfl
  have l3 := lo 3 _ rfl
  have l4 := lo 4 _ rfl
  have l5 := lo 5 _ rfl
  have g0 := gl 0 _ rfl
  have g1 := gl 1 _ rfl
  clear lo gl
  have hsc := hbl _ (.head _)
  have hI := SC.hInts
  have hL1 := SC.hLen
  have hLay := SC.hLay
  k_steps
  · unfold Done
    exact ⟨[], _, .none, Above.nil, rfl, .inl rfl, by assumption, fun p hp => hp⟩
  · unfold Stop
    generalize hq : Str.ofString "double" = q
    refine ite_true (beq_self_eq_true _) ?_
    k_steps
    rename _ ∈ _ => hv
    unfold Done
    simp only [List.mem_cons, List.not_mem_nil, or_false] at hv
    rcases hv with rfl | rfl | rfl | rfl | rfl | rfl | rfl
    all_goals
      refine' dbl_end (by assumption) ?m ?e ?a ?b ?c
      case m => repeat (first | exact List.Mem.head _ | refine List.Mem.tail _ ?_)
      case e => exact fun p hp => .tail _ (.tail _ (.tail _ (.tail _ (.tail _ (.tail _ (.tail _ (.tail _ hp)))))))
      case a => assumption
      case b => first
        | exact And.right (by assumption)
        | exact And.right (And.right (by assumption))
        | exact And.right (And.right (And.right (by assumption)))
        | exact And.right (And.right (And.right (And.right (by assumption))))
        | exact And.right (And.right (And.right (And.right (And.right (by assumption)))))
        | exact And.right (And.right (And.right (And.right (And.right (And.right (by assumption))))))
        | exact And.right (And.right (And.right (And.right (And.right (And.right (And.right (by assumption)))))))
      case c => decide +kernel
end
end
noncomputable def kOf (C : Cx) (x : Str) : Option NameKind := match C.cmp with
  | none => C.cs.names.lookup x
  | some c => (c.sc.names.map fun (n, k) => if (k == .free && C.cs.kind == .function && C.cs.names.lookup n == some .cell) then (n, .cell) else (n, k)).lookup x
section
variable {w : World} {mg mb : Str → Option Value} {means : ExcName → Option Value} {C : Cx} {D : Dy}
theorem Good.env0 (hc : C.cmp = none) : C.env D = fenv C D := by unfold Cx.env; rw [hc]
theorem Good.env1 {c : CmpS} (hc : C.cmp = some c) (G : Good w mg mb means C D) : ∃ k oC m₂, D.cm = some k ∧ c.sc.kind = .function ∧ C.env D = compEnvC c.sc (c.clo D.L) k.C (fenv C D) ∧ (k.C, oC) ∈ D.ext ∧ LCg.NsObj oC m₂ ∧ m₂ c.x = some k.v := by
  have := G.cm
  rw [hc] at this
  cases e : D.cm with
  | none => rw [e] at this; exact this.elim
  | some k =>
    rw [e] at this
    obtain ⟨hk, oC, m₂, a, b, d⟩ := this
    exact ⟨k, oC, m₂, rfl, hk, by unfold Cx.env; rw [hc, e], a, b, d⟩
theorem Good.kindOf (G : Good w mg mb means C D) (x : Str) : (C.env D).kindOf x = kOf C x := by
  cases hc : C.cmp with
  | none => rw [Good.env0 hc]; unfold kOf; rw [hc]; rfl
  | some c =>
    obtain ⟨k, _, _, _, _, e, _⟩ := G.env1 hc
    rw [e]; unfold kOf; rw [hc]; rfl
theorem Good.skind (G : Good w mg mb means C D) : (C.env D).scope.kind = .function := by
  cases hc : C.cmp with
  | none => rw [Good.env0 hc]; exact G.hk
  | some c =>
    obtain ⟨k, _, _, _, hk, e, _⟩ := G.env1 hc
    rw [e]; exact hk
theorem Good.glo (G : Good w mg mb means C D) : (C.env D).globals = mainGlobals ∧ (C.env D).builtins = builtinsNs := by
  cases hc : C.cmp with
  | none => rw [Good.env0 hc]; exact ⟨rfl, rfl⟩
  | some c =>
    obtain ⟨k, _, _, _, hk, e, _⟩ := G.env1 hc
    rw [e]; exact ⟨rfl, rfl⟩
theorem Gr.top {g : Heap} (G : Good w mg mb means C D) (X : Gr D g) : (hd.heap_1 w.params).In g ∧ TopN mg mb means g := ⟨G.XB.keeps X.B.stays, G.TB.keeps X.B.stays⟩

section
variable {A : Around} {E : Value → Shared → Prop} {h g : Heap} {gs : Array GenState} {d : Drawn} {t : Nat} {os : OsState} {m : Str → Option Value} {x : Str} {pos : Pos} {Q : Value → Shared → Prop}
theorem rd_glo {f : Addr} (G : Good w mg mb means C D) (X : Gr D g) (F : Fr g D.L h m) (gf : GF w.params x f) (hx : kOf C x = some .globalImplicit) (hdb : (x == ("__debug__" : Str)) = false) (k : Q (.ref f) ⟨h, gs, d, t, os⟩) :
    wpAny (model PG w) A (eval (.Name x pos) (C.env D)) Q E ⟨h, gs, d, t, os⟩ := by
  obtain ⟨X', T'⟩ := X.top G
  exact Name_function_global G.skind ((G.kindOf x).trans hx) (loadGlobal_global (env := C.env D) (by rw [G.glo.1]; exact T'.g.keeps F.keep) (mg_of X' T'.g gf.hG) k) hdb
theorem rd_bi {v : Value} (G : Good w mg mb means C D) (X : Gr D g) (F : Fr g D.L h m) (gb : GB w.params x v) (hx : kOf C x = some .globalImplicit) (hdb : (x == ("__debug__" : Str)) = false) (k : Q v ⟨h, gs, d, t, os⟩) :
    wpAny (model PG w) A (eval (.Name x pos) (C.env D)) Q E ⟨h, gs, d, t, os⟩ := by
  obtain ⟨X', T'⟩ := X.top G
  exact Name_function_global G.skind ((G.kindOf x).trans hx) (loadGlobal_builtin (env := C.env D) (by rw [G.glo.1]; exact T'.g.keeps F.keep) (mg_none_of X' T'.g gb.hG) (by rw [G.glo.2]; exact T'.b.keeps F.keep) ((T'.builtins x gb.hN).trans gb.hB) k) hdb
end

theorem snd_none {n : Nat} {pos : Pos} : SndX w mg mb means C xNone (.Constant .none n pos) := fun _ r s h t _ _ _ _ _ hk I kq _ => by
  rw [eval_Constant]; exact wpAny_pure (kq r .none s .none h t (Va.Le.refl r) hk I rfl)
theorem snd_bool {b : Bool} {n : Nat} {pos : Pos} : SndX w mg mb means C (xBool b) (.Constant (.bool b) n pos) := fun _ r s h t _ _ _ _ _ hk I kq _ => by
  rw [eval_Constant]; exact wpAny_pure (kq r (.bool b) s (.bool b) h t (Va.Le.refl r) hk I rfl)
theorem snd_int {i : Int} {n : Nat} {pos : Pos} : SndX w mg mb means C (xInt i) (.Constant (.int i) n pos) := fun _ r s h t _ _ _ _ _ hk I kq _ =>
  wpAny_Constant_int (kq r (.int (.lit i)) s (.int i t) h (t + 1) (Va.Le.refl r) hk I ⟨i, t, rfl, rfl⟩)
theorem snd_str {x : Str} {l : List Nat} {n : Nat} {pos : Pos} (hx : x = mkS l) : SndX w mg mb means C (xStr l) (.Constant (.str x) n pos) := fun _ r s h t _ _ _ _ _ hk I kq _ =>
  Calls.Constant_str (kq r (.str (.lit l)) s (.str x t) h (t + 1) (Va.Le.refl r) hk I ⟨x, t, hx, rfl⟩)
theorem snd_loc {i : Nat} {x : Str} {pos : Pos} (hc : C.cmp = none) (hx : C.ns[i]? = some x) (hdb : (x == ("__debug__" : Str)) = false) : SndX w mg mb means C (xLoc i) (.Name x pos) := by
  intro D r s h t k kr Q E G hk I kq ke
  unfold xLoc onO at hk
  cases e : s.get i with
  | none => rw [e] at hk; cases hk
  | some v =>
    rw [e] at hk
    have I' := I
    refine Inv.el I fun g m cells news Gg F N Co => ?_
    obtain ⟨x', v', hx', hv, hl⟩ := Co.slot i v e
    rw [hx] at hx'; cases hx'
    rw [Good.env0 hc]
    rcases hl with ⟨hl, hm⟩ | ⟨hl, c, o, hcl, hm, hd⟩
    · exact nameX_L (s := ⟨h, D.gs, D.d, t, D.os⟩) F hm (kq r v s v' h t (Va.Le.refl r) hk I' hv) G.hk hl hdb
    · exact nameX_C (s := ⟨h, D.gs, D.d, t, D.os⟩) N hcl (List.mem_append_left _ hm) hd (kq r v s v' h t (Va.Le.refl r) hk I' hv) G.hk hl hdb
theorem snd_locC {i : Nat} {x : Str} {pos : Pos} {c : CmpS} (hc : C.cmp = some c) (hx : C.ns[i]? = some x) (hdb : (x == ("__debug__" : Str)) = false) (hko : kOf C x = some .cell) (hcell : C.cs.names.lookup x = some .cell)
    (hcl : ∀ L, (c.clo L).lookup x = (cellsFrom (L + 1) C.cs.names []).lookup x) : SndX w mg mb means C (xLoc i) (.Name x pos) := by
  intro D r s h t k kr Q E G hk I kq ke
  unfold xLoc onO at hk
  cases e : s.get i with
  | none => rw [e] at hk; cases hk
  | some v =>
    rw [e] at hk
    have I' := I
    refine Inv.el I fun g m cells news Gg F N Co => ?_
    obtain ⟨x', v', hx', hv, hl⟩ := Co.slot i v e
    rw [hx] at hx'; cases hx'
    obtain ⟨kk, oC, m₂, hcm, hsk, henv, hm1, hm2, hm3⟩ := G.env1 hc
    have hkk := (G.kindOf x).trans hko
    rw [henv] at hkk ⊢
    rcases hl with ⟨hl, hm⟩ | ⟨hl, c', o, hcl', hm, hd⟩
    · rw [hcell] at hl; cases hl
    · exact lcf_cell (s := ⟨h, D.gs, D.d, t, D.os⟩) N ((hcl D.L).trans hcl') (List.mem_append_left _ hm) hd (kq r v s v' h t (Va.Le.refl r) hk I' hv) hsk hkk hdb
theorem snd_cv {x : Str} {pos : Pos} {c : CmpS} (hc : C.cmp = some c) (hx : x = c.x) (hdb : (x == ("__debug__" : Str)) = false) (hko : kOf C x = some .local) : SndX w mg mb means C xCv (.Name x pos) := by
  intro D r s h t k kr Q E G hk I kq ke
  subst hx
  have I' := I
  refine Inv.el I fun g m cells news Gg F N Co => ?_
  obtain ⟨kk, oC, m₂, hcm, hsk, henv, hm1, hm2, hm3⟩ := G.env1 hc
  have hkk := (G.kindOf c.x).trans hko
  rw [henv] at hkk ⊢
  have hC := (N (kk.C, oC) (List.mem_append_right _ (List.mem_append_right _ hm1))).1
  exact ldVarK (s := ⟨h, D.gs, D.d, t, D.os⟩) (hm2.ns hC) hm3 (kq r s.cv s kk.v h t (Va.Le.refl r) hk I' (Co.cv _ hcm)) hsk hkk hdb

theorem snds_nil : SndXs w mg mb means C [] [] := fun pos D r s h t k kr Q E G hk I kq _ => by
  exact args_nil (kq r [] s [] h t (Va.Le.refl r) hk I .nil)
theorem snds_cons {x : Sx} {e : PySem.Expr} {xs : List Sx} {es : List PySem.Expr} (hx : SndX w mg mb means C x e) (hxs : SndXs w mg mb means C xs es) (he : ∀ env, starEach (e :: es) env = (false, eval e env) :: starEach es env) : SndXs w mg mb means C (x :: xs) (e :: es) := by
  intro pos D r s h t k kr Q E G hk I kq ke
  refine args_cons (hx D r s h t _ kr _ E G hk I (fun r₁ v s₁ v' h₁ t₁ l₁ hk₁ I₁ hv => ?_) ke) (he _)
  refine hxs pos D r₁ s₁ h₁ t₁ _ kr _ E G hk₁ I₁ (fun r₂ vs s₂ vs' h₂ t₂ l₂ hk₂ I₂ hvs => ?_) fun r₂ v₂ s₂ v₂' h₂ t₂ l₂ => ke r₂ v₂ s₂ v₂' h₂ t₂ (l₁.trans l₂)
  exact kq r₂ (v :: vs) s₂ (v' :: vs') h₂ t₂ (l₁.trans l₂) hk₂ I₂ (.cons (hv.mono l₂) hvs)

theorem ifB_cases {v : AV} {a b : Bool} (h : ifB v a b = true) : (v = .bool true ∧ a = true) ∨ (v = .bool false ∧ b = true) := by
  cases v with
  | bool x => cases x with
    | true => exact .inl ⟨rfl, h⟩
    | false => exact .inr ⟨rfl, h⟩
  | _ => cases h
theorem sndT_plain {x : Sx} {e : PySem.Expr} (hx : SndX w mg mb means C x e) (he : ∀ env (whole : Sem Value), isTrue e env whole = (do let v ← whole; standAt e.pos; holding [v] (truthy v))) : SndT w mg mb means C x e := by
  intro D r s h t k kr Q E G hk I kq ke
  refine isTrue_plain (hx D r s h t _ kr _ E G hk I (fun r₁ v s₁ v' h₁ t₁ l₁ hk₁ I₁ hv => ?_) ke) (he _ _)
  rcases ifB_cases hk₁ with ⟨rfl, q⟩ | ⟨rfl, q⟩
  · cases hv; exact wpAny_truthy_bool (kq r₁ true s₁ h₁ t₁ l₁ q I₁)
  · cases hv; exact wpAny_truthy_bool (kq r₁ false s₁ h₁ t₁ l₁ q I₁)
theorem snd_ife {x y z : Sx} {e b o : PySem.Expr} {pos : Pos} (hx : SndT w mg mb means C x e) (hy : SndX w mg mb means C y b) (hz : SndX w mg mb means C z o) : SndX w mg mb means C (xIfe x y z) (.IfExp e b o pos) := by
  intro D r s h t k kr Q E G hk I kq ke
  refine IfExp_ (hx D r s h t (fun c s => match c with | true => y s k kr | false => z s k kr) kr _ E G hk I (fun r₁ c s₁ h₁ t₁ l₁ hk₁ I₁ => ?_) ke)
  have kq' := fun r₂ v₂ s₂ v₂' h₂ t₂ (l₂ : r₁.Le r₂) => kq r₂ v₂ s₂ v₂' h₂ t₂ (l₁.trans l₂)
  have ke' := fun r₂ v₂ s₂ v₂' h₂ t₂ (l₂ : r₁.Le r₂) => ke r₂ v₂ s₂ v₂' h₂ t₂ (l₁.trans l₂)
  cases c with
  | true => exact hy D r₁ s₁ h₁ t₁ k kr Q E G hk₁ I₁ kq' ke'
  | false => exact hz D r₁ s₁ h₁ t₁ k kr Q E G hk₁ I₁ kq' ke'
theorem snd_not {x : Sx} {e : PySem.Expr} {pos : Pos} (hx : SndX w mg mb means C x e) : SndX w mg mb means C (xNot x) (.UnaryOp .Not e pos) := by
  intro D r s h t k kr Q E G hk I kq ke
  refine UnaryOp_ (hx D r s h t _ kr _ E G hk I (fun r₁ v s₁ v' h₁ t₁ l₁ hk₁ I₁ hv => not_of ?_) ke)
  rcases ifB_cases hk₁ with ⟨rfl, q⟩ | ⟨rfl, q⟩
  · cases hv; exact wpAny_truthy_bool (kq r₁ (.bool false) s₁ (.bool false) h₁ t₁ l₁ q I₁ rfl)
  · cases hv; exact wpAny_truthy_bool (kq r₁ (.bool true) s₁ (.bool true) h₁ t₁ l₁ q I₁ rfl)
theorem sndT_not {x : Sx} {e : PySem.Expr} {pos : Pos} (hx : SndT w mg mb means C x e) : SndT w mg mb means C (xNot x) (.UnaryOp .Not e pos) := by
  intro D r s h t k kr Q E G hk I kq ke
  exact isTrue_not (hx D r s h t (fun c s => k (!c) s) kr _ E G hk I (fun r₁ c s₁ h₁ t₁ l₁ hk₁ I₁ => kq r₁ (!c) s₁ h₁ t₁ l₁ hk₁ I₁) ke)
theorem snd_and1 {x : Sx} {e : PySem.Expr} {pos : Pos} (hx : SndX w mg mb means C x e) : SndX w mg mb means C (ands [x]) (.BoolOp .And [e] pos) := by
  intro D r s h t k kr Q E G hk I kq ke
  exact BoolOp_one (hx D r s h t k kr Q E G hk I kq ke)
theorem snd_or1 {x : Sx} {e : PySem.Expr} {pos : Pos} (hx : SndX w mg mb means C x e) : SndX w mg mb means C (ors [x]) (.BoolOp .Or [e] pos) := by
  intro D r s h t k kr Q E G hk I kq ke
  exact BoolOp_one (hx D r s h t k kr Q E G hk I kq ke)
theorem snd_and {x y : Sx} {xs : List Sx} {e e₂ : PySem.Expr} {es : List PySem.Expr} {pos : Pos} (hx : SndX w mg mb means C x e) (hxs : SndX w mg mb means C (ands (y :: xs)) (.BoolOp .And (e₂ :: es) pos)) : SndX w mg mb means C (ands (x :: y :: xs)) (.BoolOp .And (e :: e₂ :: es) pos) := by
  intro D r s h t k kr Q E G hk I kq ke
  refine BoolOp_and (hx D r s h t _ kr _ E G hk I (fun r₁ v s₁ v' h₁ t₁ l₁ hk₁ I₁ hv => ?_) ke)
  rcases ifB_cases hk₁ with ⟨rfl, q⟩ | ⟨rfl, q⟩
  · cases hv
    exact wpAny_truthy_bool (hxs D r₁ s₁ h₁ t₁ k kr Q E G q I₁ (fun r₂ v₂ s₂ v₂' h₂ t₂ l₂ => kq r₂ v₂ s₂ v₂' h₂ t₂ (l₁.trans l₂)) fun r₂ v₂ s₂ v₂' h₂ t₂ l₂ => ke r₂ v₂ s₂ v₂' h₂ t₂ (l₁.trans l₂))
  · cases hv; exact wpAny_truthy_bool (kq r₁ (.bool false) s₁ (.bool false) h₁ t₁ l₁ q I₁ rfl)
theorem snd_or {x y : Sx} {xs : List Sx} {e e₂ : PySem.Expr} {es : List PySem.Expr} {pos : Pos} (hx : SndX w mg mb means C x e) (hxs : SndX w mg mb means C (ors (y :: xs)) (.BoolOp .Or (e₂ :: es) pos)) : SndX w mg mb means C (ors (x :: y :: xs)) (.BoolOp .Or (e :: e₂ :: es) pos) := by
  intro D r s h t k kr Q E G hk I kq ke
  refine BoolOp_or (hx D r s h t _ kr _ E G hk I (fun r₁ v s₁ v' h₁ t₁ l₁ hk₁ I₁ hv => ?_) ke)
  rcases ifB_cases hk₁ with ⟨rfl, q⟩ | ⟨rfl, q⟩
  · cases hv; exact wpAny_truthy_bool (kq r₁ (.bool true) s₁ (.bool true) h₁ t₁ l₁ q I₁ rfl)
  · cases hv
    exact wpAny_truthy_bool (hxs D r₁ s₁ h₁ t₁ k kr Q E G q I₁ (fun r₂ v₂ s₂ v₂' h₂ t₂ l₂ => kq r₂ v₂ s₂ v₂' h₂ t₂ (l₁.trans l₂)) fun r₂ v₂ s₂ v₂' h₂ t₂ l₂ => ke r₂ v₂ s₂ v₂' h₂ t₂ (l₁.trans l₂))
theorem sndT_and1 {x : Sx} {e : PySem.Expr} {pos : Pos} (hx : SndT w mg mb means C x e) : SndT w mg mb means C (ands [x]) (.BoolOp .And [e] pos) := by
  intro D r s h t k kr Q E G hk I kq ke
  refine isTrue_and (hx D r s h t k kr _ E G hk I (fun r₁ c s₁ h₁ t₁ l₁ hk₁ I₁ => ?_) ke)
  cases c with
  | true => exact isTrue_and_nil (kq r₁ true s₁ h₁ t₁ l₁ hk₁ I₁)
  | false => exact kq r₁ false s₁ h₁ t₁ l₁ hk₁ I₁
theorem sndT_or1 {x : Sx} {e : PySem.Expr} {pos : Pos} (hx : SndT w mg mb means C x e) : SndT w mg mb means C (ors [x]) (.BoolOp .Or [e] pos) := by
  intro D r s h t k kr Q E G hk I kq ke
  refine isTrue_or (hx D r s h t k kr _ E G hk I (fun r₁ c s₁ h₁ t₁ l₁ hk₁ I₁ => ?_) ke)
  cases c with
  | true => exact kq r₁ true s₁ h₁ t₁ l₁ hk₁ I₁
  | false => exact isTrue_or_nil (kq r₁ false s₁ h₁ t₁ l₁ hk₁ I₁)
end
section
variable {w : World} {mg mb : Str → Option Value} {means : ExcName → Option Value} {C : Cx} {D : Dy}
theorem ifB_ifB (A B X : Bool) (v : AV) : ifB v A (ifB v B X) = ifB v A X := by
  cases v with
  | bool b => cases b <;> rfl
  | _ => rfl
theorem ifB_ifB' (A B X : Bool) (v : AV) : ifB v (ifB v A B) X = ifB v A X := by
  cases v with
  | bool b => cases b <;> rfl
  | _ => rfl
theorem sndT_and {x y : Sx} {xs : List Sx} {e : PySem.Expr} {es : List PySem.Expr} {pos : Pos} (hx : SndT w mg mb means C x e) (hxs : SndT w mg mb means C (ands (y :: xs)) (.BoolOp .And es pos)) : SndT w mg mb means C (ands (x :: y :: xs)) (.BoolOp .And (e :: es) pos) := by
  intro D r s h t k kr Q E G hk I kq ke
  have hk' : x s (fun v s => ifB v (ands (y :: xs) s (fun v s => ifB v (k true s) (k false s)) kr) (k false s)) kr = true := by
    have e : (fun (v : AV) (s : St) => ifB v (ands (y :: xs) s (fun v s => ifB v (k true s) (k false s)) kr) (k false s)) = fun v s => ifB v (ands (y :: xs) s (fun v s => ifB v (k true s) (k false s)) kr) (ifB v (k true s) (k false s)) := by
      funext v s; rw [ifB_ifB]
    rw [e]; exact hk
  refine isTrue_and (hx D r s h t (fun c s => match c with | true => ands (y :: xs) s (fun v s => ifB v (k true s) (k false s)) kr | false => k false s) kr _ E G hk' I (fun r₁ c s₁ h₁ t₁ l₁ hk₁ I₁ => ?_) ke)
  cases c with
  | true => exact hxs D r₁ s₁ h₁ t₁ k kr Q E G hk₁ I₁ (fun r₂ b s₂ h₂ t₂ l₂ => kq r₂ b s₂ h₂ t₂ (l₁.trans l₂)) fun r₂ v₂ s₂ v₂' h₂ t₂ l₂ => ke r₂ v₂ s₂ v₂' h₂ t₂ (l₁.trans l₂)
  | false => exact kq r₁ false s₁ h₁ t₁ l₁ hk₁ I₁
theorem sndT_or {x y : Sx} {xs : List Sx} {e : PySem.Expr} {es : List PySem.Expr} {pos : Pos} (hx : SndT w mg mb means C x e) (hxs : SndT w mg mb means C (ors (y :: xs)) (.BoolOp .Or es pos)) : SndT w mg mb means C (ors (x :: y :: xs)) (.BoolOp .Or (e :: es) pos) := by
  intro D r s h t k kr Q E G hk I kq ke
  have hk' : x s (fun v s => ifB v (k true s) (ors (y :: xs) s (fun v s => ifB v (k true s) (k false s)) kr)) kr = true := by
    have e : (fun (v : AV) (s : St) => ifB v (k true s) (ors (y :: xs) s (fun v s => ifB v (k true s) (k false s)) kr)) = fun v s => ifB v (ifB v (k true s) (k false s)) (ors (y :: xs) s (fun v s => ifB v (k true s) (k false s)) kr) := by
      funext v s; rw [ifB_ifB']
    rw [e]; exact hk
  refine isTrue_or (hx D r s h t (fun c s => match c with | true => k true s | false => ors (y :: xs) s (fun v s => ifB v (k true s) (k false s)) kr) kr _ E G hk' I (fun r₁ c s₁ h₁ t₁ l₁ hk₁ I₁ => ?_) ke)
  cases c with
  | false => exact hxs D r₁ s₁ h₁ t₁ k kr Q E G hk₁ I₁ (fun r₂ b s₂ h₂ t₂ l₂ => kq r₂ b s₂ h₂ t₂ (l₁.trans l₂)) fun r₂ v₂ s₂ v₂' h₂ t₂ l₂ => ke r₂ v₂ s₂ v₂' h₂ t₂ (l₁.trans l₂)
  | true => exact kq r₁ true s₁ h₁ t₁ l₁ hk₁ I₁

noncomputable def CmpOk (w : World) (op : CmpOp) (o : Op) : Prop :=
  ∀ (C : Cx) (D : Dy) (mg mb : Str → Option Value) (means : ExcName → Option Value) (r : Va) (s : St) (h : Heap) (t : Nat) (a b : AV) (a' b' : Value) (c : Bool) (Q E : Value → Shared → Prop), Good w mg mb means C D → compare o a b s = some c → Inv w C D r s h → VR r a a' → VR r b b' →
    (∀ t', Q (.bool c) ⟨h, D.gs, D.d, t', D.os⟩) → wpAny (model PG w) (C.A D) (compareOp op a' b') Q E ⟨h, D.gs, D.d, t, D.os⟩
theorem onB_some {o : Option Bool} {s : St} {k : KV} (h : onB o s k = true) : ∃ b, o = some b ∧ k (.bool b) s = true := by
  unfold onB at h
  cases o with
  | none => cases h
  | some b => exact ⟨b, rfl, h⟩
theorem onO_some {α : Type} {o : Option α} {f : α → Bool} (h : onO o f = true) : ∃ b, o = some b ∧ f b = true := by
  unfold onO at h
  cases o with
  | none => cases h
  | some b => exact ⟨b, rfl, h⟩
theorem snd_cmp {o : Op} {op : CmpOp} {x y : Sx} {e f : PySem.Expr} {pos : Pos} (ho : CmpOk w op o) (hx : SndX w mg mb means C x e) (hy : SndX w mg mb means C y f) (hm : behindInMarks op f = false) : SndX w mg mb means C (xCmp o x y) (.Compare e [op] [f] pos) := by
  intro D r s h t k kr Q E G hk I kq ke
  refine wpAny_Compare1 (hx D r s h t _ kr _ E G hk I (fun r₁ v s₁ v' h₁ t₁ l₁ hk₁ I₁ hv => ?_) ke) hm
  refine hy D r₁ s₁ h₁ t₁ _ kr _ E G hk₁ I₁ (fun r₂ u s₂ u' h₂ t₂ l₂ hk₂ I₂ hu => ?_) fun r₂ v₂ s₂ v₂' h₂ t₂ l₂ => ke r₂ v₂ s₂ v₂' h₂ t₂ (l₁.trans l₂)
  obtain ⟨b, e1, e2⟩ := onB_some hk₂
  exact ho C D mg mb means r₂ s₂ h₂ t₂ v u v' u' b Q E G e1 I₂ (hv.mono l₂) hu fun t' => kq r₂ (.bool b) s₂ (.bool b) h₂ t' (l₁.trans l₂) e2 I₂ rfl
theorem sndT_cmp {o : Op} {op : CmpOp} {x y : Sx} {e f : PySem.Expr} {pos : Pos} (ho : CmpOk w op o) (hx : SndX w mg mb means C x e) (hy : SndX w mg mb means C y f) (hm : behindInMarks op f = false) : SndT w mg mb means C (xCmp o x y) (.Compare e [op] [f] pos) := by
  intro D r s h t k kr Q E G hk I kq ke
  refine wpAny_isTrue_Compare1 (hx D r s h t _ kr _ E G hk I (fun r₁ v s₁ v' h₁ t₁ l₁ hk₁ I₁ hv => ?_) ke) hm
  refine hy D r₁ s₁ h₁ t₁ _ kr _ E G hk₁ I₁ (fun r₂ u s₂ u' h₂ t₂ l₂ hk₂ I₂ hu => ?_) fun r₂ v₂ s₂ v₂' h₂ t₂ l₂ => ke r₂ v₂ s₂ v₂' h₂ t₂ (l₁.trans l₂)
  obtain ⟨b, e1, e2⟩ := onB_some hk₂
  refine ho C D mg mb means r₂ s₂ h₂ t₂ v u v' u' b _ E G e1 I₂ (hv.mono l₂) hu fun t' => wpAny_truthy_bool (kq r₂ b s₂ h₂ t' (l₁.trans l₂) ?_ I₂)
  cases b <;> exact e2

theorem sndb_nil : SndB w mg mb means C (blk []) [] := fun D r s h t k kret kr Q E G hk I fq ke => wpAny_execs_nil (fq.1 r s h t (Va.Le.refl r) hk I)
theorem FlowQ.mono {r r' : Va} {k : KS} {kret : KV} {Q : Flow → Shared → Prop} (l : r.Le r') (f : FlowQ w C D r k kret Q) : FlowQ w C D r' k kret Q :=
  ⟨fun r₁ s₁ h₁ t₁ l₁ => f.1 r₁ s₁ h₁ t₁ (l.trans l₁), fun r₁ v₁ s₁ v₁' h₁ t₁ l₁ => f.2 r₁ v₁ s₁ v₁' h₁ t₁ (l.trans l₁)⟩
theorem sndb_cons {x : Sb} {xs : List Sb} {e : PySem.Stmt} {es : List PySem.Stmt} (hx : SndS w mg mb means C x e) (hxs : SndB w mg mb means C (blk xs) es) : SndB w mg mb means C (blk (x :: xs)) (e :: es) := by
  intro D r s h t k kret kr Q E G hk I fq ke
  refine wpAny_execs_cons (hx D r s h t _ kret kr _ E G hk I ⟨fun r₁ s₁ h₁ t₁ l₁ hk₁ I₁ => ?_, fun r₁ v₁ s₁ v₁' h₁ t₁ l₁ hk₁ I₁ hv => fq.2 r₁ v₁ s₁ v₁' h₁ t₁ l₁ hk₁ I₁ hv⟩ ke)
  exact hxs D r₁ s₁ h₁ t₁ k kret kr Q E G hk₁ I₁ (fq.mono l₁) fun r₂ v₂ s₂ v₂' h₂ t₂ l₂ => ke r₂ v₂ s₂ v₂' h₂ t₂ (l₁.trans l₂)
theorem snds_ret {x : Sx} {e : PySem.Expr} {pos : Pos} (hx : SndX w mg mb means C x e) : SndS w mg mb means C (sRet x) (.Return (some e) pos) := fun D r s h t k kret kr Q E G hk I fq ke =>
  wpAny_Return_some (hx D r s h t kret kr _ E G hk I (fun r₁ v s₁ v' h₁ t₁ l₁ hk₁ I₁ hv => fq.2 r₁ v s₁ v' h₁ t₁ l₁ hk₁ I₁ hv) ke)
theorem snds_if {x : Sx} {b o : Sb} {e : PySem.Expr} {es fs : List PySem.Stmt} {pos : Pos} (hx : SndT w mg mb means C x e) (hb : SndB w mg mb means C b es) (ho : SndB w mg mb means C o fs) : SndS w mg mb means C (sIff x b o) (.If e es fs pos) := by
  intro D r s h t k kret kr Q E G hk I fq ke
  refine wpAny_If (hx D r s h t (fun c s => match c with | true => b s k kret kr | false => o s k kret kr) kr _ E G hk I (fun r₁ c s₁ h₁ t₁ l₁ hk₁ I₁ => ?_) ke)
  have ke' := fun r₂ v₂ s₂ v₂' h₂ t₂ (l₂ : r₁.Le r₂) => ke r₂ v₂ s₂ v₂' h₂ t₂ (l₁.trans l₂)
  cases c with
  | true => exact hb D r₁ s₁ h₁ t₁ k kret kr Q E G hk₁ I₁ (fq.mono l₁) ke'
  | false => exact ho D r₁ s₁ h₁ t₁ k kret kr Q E G hk₁ I₁ (fq.mono l₁) ke'

theorem cells_apart : ∀ (names : List (Str × NameKind)) (n : Nat) (acc : List (Str × Addr)), acc.Pairwise (fun x y => x.2 ≠ y.2) → (∀ p ∈ acc, @LT.lt Nat _ p.2 n) → (cellsFrom n names acc).Pairwise (fun x y => x.2 ≠ y.2)
  | [], _, _, h, _ => h
  | (name, kind) :: r, n, acc, h, hlt => by
    unfold cellsFrom
    split
    · exact cells_apart r (n + 1) _ (List.Pairwise.cons (fun p hp => Nat.ne_of_gt (hlt p hp)) h) fun p hp => by
        rcases List.mem_cons.mp hp with rfl | hp
        · exact Nat.lt_succ_self _
        · exact Nat.lt_succ_of_lt (hlt p hp)
    · exact cells_apart r n acc h hlt
theorem get_set {v u : AV} : ∀ {l : List (Option AV)} {i j : Nat}, at? (setL v l i) j = some (some u) → (j = i ∧ u = v) ∨ (j ≠ i ∧ at? l j = some (some u))
  | [], i, j, h => by cases i <;> cases j <;> cases h
  | x :: l, 0, 0, h => by cases h; exact .inl ⟨rfl, rfl⟩
  | x :: l, 0, j + 1, h => .inr ⟨Nat.succ_ne_zero j, h⟩
  | x :: l, i + 1, 0, h => .inr ⟨(Nat.succ_ne_zero i).symm, h⟩
  | x :: l, i + 1, j + 1, h => by
    rcases get_set (l := l) (i := i) (j := j) h with ⟨a, b⟩ | ⟨a, b⟩
    · exact .inl ⟨by rw [a], b⟩
    · exact .inr ⟨fun e => a (Nat.succ.inj e), b⟩
theorem get_setLoc {v u : AV} {s : St} {i j : Nat} (h : (setLoc i v s).get j = some u) : (j = i ∧ u = v) ∨ (j ≠ i ∧ s.get j = some u) := by
  unfold St.get setLoc at h
  dsimp only at h
  have : at? (setL v s.loc i) j = some (some u) := by
    cases e : at? (setL v s.loc i) j with
    | none => rw [e] at h; cases h
    | some o => rw [e] at h; dsimp only at h; rw [h]
  rcases get_set this with h' | ⟨a, b⟩
  · exact .inl h'
  · refine .inr ⟨a, ?_⟩
    unfold St.get; rw [b]
theorem ns_inj (G : Good w mg mb means C D) {i j : Nat} {x : Str} (hi : C.ns[i]? = some x) (hj : C.ns[j]? = some x) : i = j := by
  obtain ⟨h1, e1⟩ := List.getElem?_eq_some_iff.mp hi
  obtain ⟨h2, e2⟩ := List.getElem?_eq_some_iff.mp hj
  exact (List.getElem_inj G.nsd).mp (e1.trans e2.symm)
theorem st_inv {A : Around} {E : Value → Shared → Prop} {r : Va} {s : St} {h : Heap} {t : Nat} {i : Nat} {x : Str} {v : AV} {v' : Value} {Q : Unit → Shared → Prop} (G : Good w mg mb means C D) (I : Inv w C D r s h) (hx : C.ns[i]? = some x) (hv : VR r v v')
    (hl : C.cs.names.lookup x = some .local ∨ (C.cs.names.lookup x = some .cell ∧ ∀ L, ((cellsFrom (L + 1) C.cs.names []).lookup x).isSome = true))
    (k : ∀ h' t', Inv w C D r (setLoc i v s) h' → Q () ⟨h', D.gs, D.d, t', D.os⟩) : wpAny (model PG w) A (storeName (fenv C D) x v') Q E ⟨h, D.gs, D.d, t, D.os⟩ := by
  refine Inv.el I fun g m cells news Gg F N Co => ?_
  rcases hl with hl | ⟨hl, hc⟩
  · refine storeX_L (s := ⟨h, D.gs, D.d, t, D.os⟩) F N (fun h' F' N' => k h' _ ⟨g, _, cells, news, Gg, F', N', Co.nd, Co.led, Co.new, fun j u hu => ?_, Co.cv, Co.cell, Co.scr⟩) G.hk hl
    rcases get_setLoc hu with ⟨rfl, rfl⟩ | ⟨hj, hu⟩
    · exact ⟨x, v', hx, hv, .inl ⟨hl, if_pos rfl⟩⟩
    · obtain ⟨y, u', hy, hu', hr⟩ := Co.slot j u hu
      refine ⟨y, u', hy, hu', hr.imp (fun z => ⟨z.1, ?_⟩) id⟩
      show (if y = x then some v' else m y) = some u'
      rw [if_neg (fun e : y = x => hj (ns_inj G hy (by rw [e]; exact hx)))]
      exact z.2
  · obtain ⟨c, hcl⟩ := Option.isSome_iff_exists.mp (hc D.L)
    obtain ⟨o, v₀, hm, hd⟩ := Co.cell x c hcl
    obtain ⟨ca, cb, rfl⟩ := List.append_of_mem hm
    have nd := Co.nd
    have hmem := N (c, o) (List.mem_append_left _ hm)
    have nd' : ((ca ++ (c, o) :: (cb ++ (news ++ D.ext))).map (·.1)).Nodup := by simpa only [List.append_assoc, List.cons_append] using nd
    have N' : News g D.L h (ca ++ (c, o) :: (cb ++ (news ++ D.ext))) := by simpa only [List.append_assoc, List.cons_append] using N
    have ap := cells_apart C.cs.names (D.L + 1) [] .nil (fun _ hp => nomatch hp)
    rw [List.map_append, List.map_cons, List.nodup_append] at nd'
    obtain ⟨n1, n2, n3⟩ := nd'
    rw [List.nodup_cons] at n2
    have h1 : ∀ p ∈ ca, p.1 ≠ c := fun p hp => n3 p.1 (List.mem_map_of_mem (f := (·.1)) hp) c (.head _)
    have h2 : ∀ p ∈ cb ++ (news ++ D.ext), p.1 ≠ c := fun p hp e => n2.1 (List.mem_map.mpr ⟨p, hp, e⟩)
    refine wpAny_storeName_cell (env := fenv C D) (s := ⟨h, D.gs, D.d, t, D.os⟩) G.hk hl hcl ⟨o, hmem.1, hd⟩ fun h' hv' hs => ?_
    obtain ⟨o', ho', hd'⟩ := hv'
    have F' : Fr g D.L h' m := ⟨F.ns.sameBut hs (Ne.symm hmem.2.1), fun b ob e => (hs.2 b (fun q => by rw [q, hmem.2.2] at e; cases e)).trans (F.keep b ob e), F.above⟩
    have N₂ := N'.setAt h1 h2 hs ho'
    refine k h' _ ⟨g, m, ca ++ (c, o') :: cb, news, Gg, F', by simpa only [List.append_assoc, List.cons_append] using N₂, by simpa only [List.map_append, List.map_cons] using nd, Co.led, Co.new, fun j u hu => ?_, Co.cv, fun y c' hy => ?_, Co.scr⟩
    · rcases get_setLoc hu with ⟨rfl, rfl⟩ | ⟨hj, hu⟩
      · exact ⟨x, v', hx, hv, .inr ⟨hl, c, o', hcl, List.mem_append_right _ (.head _), hd'⟩⟩
      · obtain ⟨y, u', hy, hu', hr⟩ := Co.slot j u hu
        refine ⟨y, u', hy, hu', hr.imp id fun ⟨z, c', o₁, e1, e2, e3⟩ => ⟨z, c', o₁, e1, ?_, e3⟩⟩
        have hne : c' ≠ c := fun q => by
          subst q
          have : y = x := name_of_addr ap (mem_of_lookup e1) (mem_of_lookup hcl)
          exact hj (ns_inj G hy (this ▸ hx))
        rcases List.mem_append.mp e2 with e2 | e2
        · exact List.mem_append_left _ e2
        · rcases List.mem_cons.mp e2 with e2 | e2
          · cases e2; exact (hne rfl).elim
          · exact List.mem_append_right _ (.tail _ e2)
    · obtain ⟨o₁, v₁, e1, e2⟩ := Co.cell y c' hy
      rcases List.mem_append.mp e1 with e1 | e1
      · exact ⟨o₁, v₁, List.mem_append_left _ e1, e2⟩
      · rcases List.mem_cons.mp e1 with e1 | e1
        · cases e1; exact ⟨o', _, List.mem_append_right _ (.head _), hd'⟩
        · exact ⟨o₁, v₁, List.mem_append_right _ (.tail _ e1), e2⟩
theorem snds_asg {i : Nat} {x : Str} {y : Sx} {e : PySem.Expr} {p pos : Pos} (hc : C.cmp = none) (hx : C.ns[i]? = some x) (hy : SndX w mg mb means C y e)
    (hl : C.cs.names.lookup x = some .local ∨ (C.cs.names.lookup x = some .cell ∧ ∀ L, ((cellsFrom (L + 1) C.cs.names []).lookup x).isSome = true))
    (hs : ∀ D, swapsWith e (some (.Name x p)) pos.line (fenv C D) = pure false) : SndS w mg mb means C (sAsg i y) (.Assign [.Name x p] e pos) := by
  intro D r s h t k kret kr Q E G hk I fq ke
  have hy' := hy D r s h t _ kr (fun v s₁ => wpAny (model PG w) (C.A D) (storeName (fenv C D) x v) (fun _ => Q .next) E s₁) E G hk I (fun r₁ v s₁ v' h₁ t₁ l₁ hk₁ I₁ hv => ?_) ke
  · rw [Good.env0 hc] at hy' ⊢
    exact wpAny_Assign_Name hy' (hs D)
  · exact st_inv G I₁ hx hv hl fun h' t' I' => fq.1 r₁ _ h' t' l₁ hk₁ I'
end
section
variable {w : World} {mg mb : Str → Option Value} {means : ExcName → Option Value} {C : Cx} {D : Dy}
theorem small_le : ∀ {l : List AV} {n : Nat}, small l n = true → l.length ≤ n
  | [], _, _ => Nat.zero_le _
  | _ :: r, 0, h => by cases h
  | _ :: r, n + 1, h => Nat.succ_le_succ (small_le (l := r) h)
theorem alloc_some {o : Ob} {s : St} {k : KV} (h : alloc o s k = true) : fits o = true ∧ k (.obj s.nx) (put o s) = true := by
  unfold alloc at h
  split at h
  · exact ⟨by assumption, h⟩
  · cases h
theorem alloc_inv {r : Va} {s : St} {h' g : Heap} {m : Str → Option Value} {cells news l₁ : List (Addr × Obj)} {a d : Addr} {o : Ob} (Gg : Gr D g) (F : Fr g D.L h' m) (N : News g D.L h' (l₁ ++ (cells ++ (news ++ D.ext))))
    (nd : ((l₁ ++ (cells ++ (news ++ D.ext))).map (·.1)).Nodup) (Co : Core w C D r s m cells news) (ho : ∀ r', r.Le r' → r' s.nx = some (.ad a d) → OR w r' s.nx o l₁) :
    ∃ r', r.Le r' ∧ r' s.nx = some (.ad a d) ∧ Inv w C D r' (put o s) h' := by
  have hn := Co.new s.nx (Nat.le_refl _)
  have le := Va.put_le (x := Sl.ad a d) hn
  refine ⟨r.put s.nx (.ad a d), le, Va.put_at, g, m, cells, l₁ ++ news, Gg, F, fun p hp => N p ?_, ?_, ⟨l₁, news, rfl, ho _ le Va.put_at, Co.led.mono le⟩, fun i hi => ?_, fun i v hv => (Co.slot i v hv).mono le, fun k hk => (Co.cv k hk).mono le, Co.cell, le _ _ Co.scr⟩
  · simp only [List.mem_append] at hp ⊢
    rcases hp with hp | (hp | hp) | hp <;> simp [hp]
  · have : (l₁ ++ (cells ++ (news ++ D.ext))).Perm (cells ++ ((l₁ ++ news) ++ D.ext)) := by
      rw [List.append_assoc l₁ news]; exact List.perm_append_comm_assoc l₁ cells _
    exact (this.map (·.1)).nodup_iff.mp nd
  · unfold Va.put
    have : s.nx.succ ≤ i := hi
    rw [if_neg (by omega)]
    exact Co.new i (by omega)
theorem alloc1 {r : Va} {s : St} {h' g : Heap} {m : Str → Option Value} {cells news : List (Addr × Obj)} {a : Addr} {ob : Obj} {o : Ob} (Gg : Gr D g) (F : Fr g D.L h' m) (N : News g D.L h' ((a, ob) :: (cells ++ (news ++ D.ext))))
    (lt : ∀ p ∈ cells ++ (news ++ D.ext), p.1 < a) (Co : Core w C D r s m cells news) (ho : ∀ r', r.Le r' → r' s.nx = some (.ad a 0) → OR w r' s.nx o [(a, ob)]) :
    ∃ r', r.Le r' ∧ r' s.nx = some (.ad a 0) ∧ Inv w C D r' (put o s) h' := by
  refine alloc_inv (l₁ := [(a, ob)]) Gg F N ?_ Co ho
  rw [List.cons_append, List.nil_append, List.map_cons, List.nodup_cons]
  refine ⟨fun hm => ?_, Co.nd⟩
  obtain ⟨p, hp, e⟩ := List.mem_map.mp hm
  exact absurd e (Nat.ne_of_lt (lt p hp))
theorem mk_list {A : Around} {E Q : Value → Shared → Prop} {r : Va} {s : St} {h : Heap} {t : Nat} {xs : List AV} {vs : List Value} {k : KV} (I : Inv w C D r s h) (hv : VRs r xs vs) (hk : alloc (.list xs) s k = true)
    (kq : ∀ r' h' a, r.Le r' → k (.obj s.nx) (put (.list xs) s) = true → Inv w C D r' (put (.list xs) s) h' → VR r' (.obj s.nx) (.ref a) → Q (.ref a) ⟨h', D.gs, D.d, t, D.os⟩) : wpAny (model PG w) A (newList vs) Q E ⟨h, D.gs, D.d, t, D.os⟩ := by
  obtain ⟨hf, hk⟩ := alloc_some hk
  refine Inv.el I fun g m cells news Gg F N Co => ?_
  refine newList_K (s := ⟨h, D.gs, D.d, t, D.os⟩) F N (fun a h' F' N' lt => ?_) ?_
  · obtain ⟨r', l, e, I'⟩ := alloc1 (o := .list xs) Gg F' N' lt Co fun r' l e => ⟨a, 0, vs, 0, e, rfl, hv.mono l, small_le hf⟩
    exact kq r' h' a l hk I' ⟨a, 0, e, rfl⟩
  · have := small_le hf; rw [hv.length, sizeLine_eq]; omega
theorem mk_tup {A : Around} {E Q : Value → Shared → Prop} {r : Va} {s : St} {h : Heap} {t : Nat} {xs : List AV} {vs : List Value} {k : KV} (I : Inv w C D r s h) (hv : VRs r xs vs) (hk : alloc (.tup xs) s k = true)
    (kq : ∀ r' h' a, r.Le r' → k (.obj s.nx) (put (.tup xs) s) = true → Inv w C D r' (put (.tup xs) s) h' → VR r' (.obj s.nx) (.ref a) → Q (.ref a) ⟨h', D.gs, D.d, t, D.os⟩) : wpAny (model PG w) A (newTuple vs) Q E ⟨h, D.gs, D.d, t, D.os⟩ := by
  obtain ⟨hf, hk⟩ := alloc_some hk
  refine Inv.el I fun g m cells news Gg F N Co => ?_
  refine newTupL (t := t) F N ?_ (fun a h' F' N' lt => ?_)
  · have := small_le hf; rw [hv.length]; omega
  · obtain ⟨r', l, e, I'⟩ := alloc1 (o := .tup xs) Gg F' N' lt Co fun r' l e => ⟨a, 0, vs, 0, e, rfl, hv.mono l, small_le hf⟩
    exact kq r' h' a l hk I' ⟨a, 0, e, rfl⟩
theorem snd_list {xs : List Sx} {es : List PySem.Expr} {pos : Pos} (hx : SndXs w mg mb means C xs es) : SndX w mg mb means C (xList xs) (.List es pos) := by
  intro D r s h t k kr Q E G hk I kq ke
  refine List_ (hx pos D r s h t _ kr _ E G hk I (fun r₁ v s₁ v' h₁ t₁ l₁ hk₁ I₁ hv => ?_) ke)
  exact mk_list I₁ hv hk₁ fun r₂ h₂ a l₂ hk₂ I₂ hv₂ => kq r₂ _ _ _ h₂ t₁ (l₁.trans l₂) hk₂ I₂ hv₂
theorem snd_tup {xs : List Sx} {es : List PySem.Expr} {n : Nat} {pos : Pos} (hx : SndXs w mg mb means C xs es) : SndX w mg mb means C (xTup xs) (.Tuple es n pos) := by
  intro D r s h t k kr Q E G hk I kq ke
  refine Tuple_ (hx pos D r s h t _ kr _ E G hk I (fun r₁ v s₁ v' h₁ t₁ l₁ hk₁ I₁ hv => ?_) ke)
  exact mk_tup I₁ hv hk₁ fun r₂ h₂ a l₂ hk₂ I₂ hv₂ => kq r₂ _ _ _ h₂ t₁ (l₁.trans l₂) hk₂ I₂ hv₂
theorem obj_at {r : Va} {s : St} {h : Heap} {v : AV} {v' : Value} {f : Ob → Bool} (I : Inv w C D r s h) (hv : VR r v v') (hf : onObj v s f = true) :
    ∃ i o g m cells pre l₁ post a d, v = .obj i ∧ look i s.objs = some o ∧ f o = true ∧ v' = .ref a ∧ r i = some (.ad a d) ∧ Gr D g ∧ Fr g D.L h m ∧ News g D.L h (cells ++ ((pre ++ (l₁ ++ post)) ++ D.ext)) ∧ Core w C D r s m cells (pre ++ (l₁ ++ post)) ∧ OR w r i o l₁ ∧
      ∀ r' o' l₁', r.Le r' → OR w r' i o' l₁' → LedR w r' (upd i o' s.objs) (pre ++ (l₁' ++ post)) := by
  cases v with
  | obj i =>
    unfold onObj at hf
    dsimp only at hf
    split at hf
    · rename_i o ho
      refine Inv.el I fun g m cells news Gg F N Co => ?_
      obtain ⟨pre, l₁, post, rfl, hor, hup⟩ := Co.led.look ho
      obtain ⟨a, d, e, rfl⟩ := hv
      exact ⟨i, o, g, m, cells, pre, l₁, post, a, d, rfl, ho, hf, rfl, e, Gg, F, N, Co, hor, hup⟩
    · cases hf
  | _ => cases hf
theorem mem3 {p : Addr × Obj} {cells pre l₁ post ext : List (Addr × Obj)} (h : p ∈ l₁) : p ∈ cells ++ ((pre ++ (l₁ ++ post)) ++ ext) := by simp [h]
theorem obj_el {r : Va} {s : St} {h : Heap} {v : AV} {v' : Value} {f : Ob → Bool} (I : Inv w C D r s h) (hv : VR r v v') (hf : onObj v s f = true) {P : Prop}
    (k : ∀ i o g m cells pre l₁ post a d, (v = .obj i) → (look i s.objs = some o) → (f o = true) → (v' = .ref a) → (r i = some (.ad a d)) → (Gr D g) → (Fr g D.L h m) → (News g D.L h (cells ++ ((pre ++ (l₁ ++ post)) ++ D.ext))) → (Core w C D r s m cells (pre ++ (l₁ ++ post))) → (OR w r i o l₁) → (∀ r' o' l₁', r.Le r' → OR w r' i o' l₁' → LedR w r' (upd i o' s.objs) (pre ++ (l₁' ++ post))) → P) : P := by
  obtain ⟨i, o, g, m, cells, pre, l₁, post, a, d, e0, e1, e2, e3, e4, e5, e6, e7, e8, e9, e10⟩ := obj_at I hv hf
  exact k i o g m cells pre l₁ post a d e0 e1 e2 e3 e4 e5 e6 e7 e8 e9 e10
end
theorem mkS_inj {a b : List Nat} (h : mkS a = mkS b) : a = b := by
  unfold mkS at h
  have := congrArg Str.cps h
  simpa using this
theorem strEq_iff : ∀ {a b : List Nat}, strEq a b = true ↔ a = b
  | [], [] => by simp [strEq]
  | [], _ :: _ => by simp [strEq]
  | _ :: _, [] => by simp [strEq]
  | x :: r, y :: q => by
    unfold strEq
    cases h : Nat.beq x y with
    | true => rw [Nat.eq_of_beq_eq_true h, List.cons.injEq]; simp only [true_and]; exact strEq_iff
    | false =>
      have := Nat.ne_of_beq_eq_false h
      simp [this]
theorem isStr_mkS {a b : List Nat} {t : Tok} : (Value.str (mkS a) t).isStr (mkS b) = strEq b a := by
  show (mkS a == mkS b) = strEq b a
  by_cases h : a = b
  · subst h; simp [strEq_iff.mpr]
  · have h1 : (mkS a == mkS b) = false := beq_eq_false_iff_ne.mpr fun e => h (mkS_inj e)
    rw [h1]
    cases q : strEq b a with
    | false => rfl
    | true => exact absurd (strEq_iff.mp q).symm h
theorem attr_inj {a j : Nat} (ha : a ≤ 16) (h : attrL j = attrL a) : j = a := by
  have e1 : ∀ a : Fin 17, ∀ j : Fin 17, attrL j.1 = attrL a.1 → j.1 = a.1 := by decide
  have e2 : ∀ a : Fin 17, attrL a.1 ≠ [] := by decide
  by_cases hj : j ≤ 16
  · exact e1 ⟨a, by omega⟩ ⟨j, by omega⟩ h
  · exfalso
    obtain ⟨n, rfl⟩ : ∃ n, j = n + 17 := ⟨j - 17, by omega⟩
    exact e2 ⟨a, by omega⟩ h.symm
theorem look_nmF {a : Nat} (ha : a ≤ 16) : ∀ {fs : List (Nat × AV)}, lookS (attrL a) (nmF fs) = look a fs
  | [] => rfl
  | (j, v) :: r => by
    show (match strEq (attrL a) (attrL j) with | true => some v | false => lookS (attrL a) (nmF r)) = (match Nat.beq a j with | true => some v | false => look a r)
    cases h : Nat.beq a j with
    | true =>
      rw [Nat.eq_of_beq_eq_true h, strEq_iff.mpr rfl]
    | false =>
      have : strEq (attrL a) (attrL j) = false := by
        cases q : strEq (attrL a) (attrL j) with
        | false => rfl
        | true => exact absurd (attr_inj ha (strEq_iff.mp q).symm).symm (Nat.ne_of_beq_eq_false h)
      rw [this]
      exact look_nmF ha
theorem getL_cons {k name : Str} {h : Int} {t : Tok} {v : Value} {es : List DictEntry} : getL name (⟨h, .str k t, v⟩ :: es) = match k == name with | true => some (some v) | false => getL name es := by
  unfold getL
  have e : (⟨h, .str k t, v⟩ : DictEntry).key.isStr name = (k == name) := rfl
  have e2 : (⟨h, .str k t, v⟩ : DictEntry).refKey = false := rfl
  rw [List.find?_cons, e]
  cases q : k == name with
  | true => rfl
  | false =>
    dsimp only
    cases es.find? (fun x => x.key.isStr name) with
    | some _ => rfl
    | none => dsimp only; rw [List.any_cons, e2, Bool.false_or]
theorem mkS_beq {a b : List Nat} : (mkS a == mkS b) = strEq b a := isStr_mkS (t := 0)
theorem DR.get {P : Params} {r : Va} {l es} (x : DR P r l es) {k : List Nat} : match lookS k l with | some v => ∃ v', getL (mkS k) es = some (some v') ∧ VR r v v' | none => getL (mkS k) es = some none := by
  induction x with
  | nil => rfl
  | @cons k' a v t l es hv x ih =>
    rw [getL_cons, mkS_beq]
    show match (match strEq k k' with | true => some a | false => lookS k l) with | some v => _ | none => _
    cases strEq k k' with
    | true => exact ⟨v, rfl, hv⟩
    | false => exact ih
theorem DR.get1 {P : Params} {r : Va} {l es} (x : DR P r l es) {k : List Nat} {v : AV} (h : lookS k l = some v) : ∃ v', getL (mkS k) es = some (some v') ∧ VR r v v' := by
  have := x.get (k := k); rw [h] at this; exact this
theorem DR.get0 {P : Params} {r : Va} {l es} (x : DR P r l es) {k : List Nat} (h : lookS k l = none) : getL (mkS k) es = some none := by
  have := x.get (k := k); rw [h] at this; exact this
theorem DR.keys {P : Params} {r : Va} {l es} (x : DR P r l es) : KeysLit P es := by
  induction x with
  | nil => trivial
  | cons _ _ ih => exact ⟨⟨_, _, rfl, rfl⟩, ih⟩
theorem DR.len {P : Params} {r : Va} {l es} (x : DR P r l es) : es.length = l.length := by
  induction x with
  | nil => rfl
  | cons _ _ ih => rw [List.length_cons, List.length_cons, ih]
theorem DR.put {P : Params} {r : Va} {l es} (x : DR P r l es) {k : List Nat} {u : AV} {u' : Value} {t : Tok} (hu : VR r u u') : DR P r (putS k u l) (putL (mkS k) (PyData.keyHash P (mkS k)) (.str (mkS k) t) u' es) ∧ (putL (mkS k) (PyData.keyHash P (mkS k)) (.str (mkS k) t) u' es).length ≤ es.length + 1 := by
  induction x with
  | nil => exact ⟨.cons hu .nil, Nat.le_refl _⟩
  | @cons k' a v t' l es hv x ih =>
    unfold putS putL
    dsimp only
    rw [isStr_mkS]
    cases h : strEq k k' with
    | true =>
      rw [if_pos rfl]
      exact ⟨.cons hu x, Nat.le_succ _⟩
    | false =>
      rw [if_neg (by decide)]
      exact ⟨.cons hv ih.1, Nat.succ_le_succ ih.2⟩
theorem strEq_attr {a j : Nat} (ha : a ≤ 16) : strEq (attrL a) (attrL j) = Nat.beq a j := by
  cases h : Nat.beq a j with
  | true => rw [Nat.eq_of_beq_eq_true h, strEq_iff.mpr rfl]
  | false =>
    cases q : strEq (attrL a) (attrL j) with
    | false => rfl
    | true => exact absurd (attr_inj ha (strEq_iff.mp q).symm).symm (Nat.ne_of_beq_eq_false h)
theorem putS_nmF {a : Nat} (ha : a ≤ 16) {v : AV} : ∀ {fs : List (Nat × AV)}, putS (attrL a) v (nmF fs) = nmF (putF a v fs)
  | [] => rfl
  | (j, u) :: r => by
    unfold putF nmF
    rw [List.map_cons]
    unfold putS
    dsimp only
    rw [strEq_attr ha]
    cases Nat.beq a j with
    | true => rfl
    | false =>
      dsimp only
      rw [List.map_cons]
      exact congrArg _ (putS_nmF ha (fs := r))
theorem look_putF {a k : Nat} {v u : AV} : ∀ {fs : List (Nat × AV)}, look k (putF a v fs) = some u → k = a ∨ look k fs = some u
  | [], h => by
    unfold putF look at h
    cases q : Nat.beq k a with
    | true => exact .inl (Nat.eq_of_beq_eq_true q)
    | false => rw [q] at h; cases h
  | (j, w) :: r, h => by
    unfold putF at h
    cases q : Nat.beq a j with
    | true =>
      rw [q] at h
      dsimp only at h
      have q0 := Nat.eq_of_beq_eq_true q
      subst q0
      unfold look at h ⊢
      cases q' : Nat.beq k a with
      | true => exact .inl (Nat.eq_of_beq_eq_true q')
      | false => rw [q'] at h; exact .inr h
    | false =>
      rw [q] at h
      dsimp only at h
      unfold look at h ⊢
      cases q' : Nat.beq k j with
      | true => rw [q'] at h; exact .inr h
      | false =>
        rw [q'] at h
        exact look_putF h
theorem VR.handed {r : Va} {v : AV} {v' : Value} (h : VR r v v') (ho : ∀ i, v ≠ .opq i) : handedIn v' = true := by
  cases v with
  | none => cases h; rfl
  | bool b => cases h; rfl
  | int a => obtain ⟨_, _, _, rfl⟩ := h; rfl
  | str a => obtain ⟨_, _, _, rfl⟩ := h; rfl
  | obj i => obtain ⟨_, _, _, rfl⟩ := h; rfl
  | opq i => exact absurd rfl (ho i)
section
variable {w : World} {mg mb : Str → Option Value} {means : ExcName → Option Value} {C : Cx} {D : Dy}
theorem noOpq_some {v : AV} {b : Bool} (h : noOpq v b = true) : (∀ i, v ≠ .opq i) ∧ b = true := by
  cases v with
  | opq i => cases h
  | _ => exact ⟨fun _ e => (nomatch e), h⟩
theorem onI_some {v : AV} {f : Nat → Bool} (h : onI v f = true) : ∃ i, v = .obj i ∧ f i = true := by
  cases v with
  | obj i => exact ⟨i, rfl, h⟩
  | _ => cases h
theorem onN_some {v : AV} {f : Nat → Bool} (h : onN v f = true) : ∃ n, v = .int (.lit (.ofNat n)) ∧ f n = true := by
  unfold onN at h
  split at h
  · exact ⟨_, rfl, h⟩
  · cases h
theorem onS_some {v : AV} {f : List Nat → Bool} (h : onS v f = true) : ∃ n, v = .str (.lit n) ∧ f n = true := by
  unfold onS at h
  split at h
  · exact ⟨_, rfl, h⟩
  · cases h
theorem inst_at {r : Va} {s : St} {h : Heap} {v : AV} {v' : Value} {f : Nat → List (Nat × AV) → Bool} (I : Inv w C D r s h) (hv : VR r v v') (hf : onInst v s f = true) :
    ∃ i c fs g m cells pre post a d ds n, v = .obj i ∧ look i s.objs = some (.inst c fs) ∧ f c fs = true ∧ v' = .ref a ∧ r i = some (.ad a d) ∧ Gr D g ∧ Fr g D.L h m ∧ News g D.L h (cells ++ ((pre ++ ([(a, instObj c d), (d, dictOf ds n)] ++ post)) ++ D.ext)) ∧
      Core w C D r s m cells (pre ++ ([(a, instObj c d), (d, dictOf ds n)] ++ post)) ∧ DR w.params r (nmF fs) ds ∧ ds.length ≤ 40 ∧ (∀ k v, look k fs = some v → AOk w.params c k) ∧
      ∀ r' o' l₁', r.Le r' → OR w r' i o' l₁' → LedR w r' (upd i o' s.objs) (pre ++ (l₁' ++ post)) := by
  refine obj_el I hv hf fun i o g m cells pre l₁ post a d e1 e2 e3 e4 e5 Gg F N Co hor hup => ?_
  cases o with
  | inst c fs =>
    obtain ⟨a', d', ds, n, e6, rfl, hdr, hlen, hok⟩ := hor
    rw [e5] at e6; cases e6
    exact ⟨i, c, fs, g, m, cells, pre, post, a, d, ds, n, e1, e2, e3, e4, e5, Gg, F, N, Co, hdr, hlen, hok, hup⟩
  | _ => cases e3
theorem dict_at {r : Va} {s : St} {h : Heap} {v : AV} {v' : Value} {f : List (List Nat × AV) → Bool} (I : Inv w C D r s h) (hv : VR r v v') (hf : onDict v s f = true) :
    ∃ i es g m cells pre post a d o kvs, v = .obj i ∧ look i s.objs = some (.dict es) ∧ f es = true ∧ v' = .ref a ∧ r i = some (.ad a d) ∧ Gr D g ∧ Fr g D.L h m ∧ News g D.L h (cells ++ ((pre ++ ([(a, o)] ++ post)) ++ D.ext)) ∧
      Core w C D r s m cells (pre ++ ([(a, o)] ++ post)) ∧ Obj.IsDictOf (PySem.strKind PG w) o kvs ∧ KR r es kvs ∧ (a == sysModules) = false ∧ es.length ≤ 40 ∧
      ∀ r' o' l₁', r.Le r' → OR w r' i o' l₁' → LedR w r' (upd i o' s.objs) (pre ++ (l₁' ++ post)) := by
  refine obj_el I hv hf fun i o g m cells pre l₁ post a d e1 e2 e3 e4 e5 Gg F N Co hor hup => ?_
  cases o with
  | dict es =>
    obtain ⟨a', d', o, kvs, e6, rfl, hdr, hkr, hlt, hlen⟩ := hor
    rw [e5] at e6; cases e6
    exact ⟨i, es, g, m, cells, pre, post, a, d, o, kvs, e1, e2, e3, e4, e5, Gg, F, N, Co, hdr, hkr, hlt, hlen, hup⟩
  | _ => cases e3
theorem list_at {r : Va} {s : St} {h : Heap} {v : AV} {v' : Value} {f : List AV → Bool} (I : Inv w C D r s h) (hv : VR r v v') (hf : onList v s f = true) :
    ∃ i xs g m cells pre post a d vs n, v = .obj i ∧ look i s.objs = some (.list xs) ∧ f xs = true ∧ v' = .ref a ∧ r i = some (.ad a d) ∧ Gr D g ∧ Fr g D.L h m ∧ News g D.L h (cells ++ ((pre ++ ([(a, listOf vs.toArray n)] ++ post)) ++ D.ext)) ∧
      Core w C D r s m cells (pre ++ ([(a, listOf vs.toArray n)] ++ post)) ∧ VRs r xs vs ∧ xs.length ≤ 40 ∧
      ∀ r' o' l₁', r.Le r' → OR w r' i o' l₁' → LedR w r' (upd i o' s.objs) (pre ++ (l₁' ++ post)) := by
  refine obj_el I hv hf fun i o g m cells pre l₁ post a d e1 e2 e3 e4 e5 Gg F N Co hor hup => ?_
  cases o with
  | list xs =>
    obtain ⟨a', d', vs, n, e6, rfl, hvs, hz⟩ := hor
    rw [e5] at e6; cases e6
    exact ⟨i, xs, g, m, cells, pre, post, a, d, vs, n, e1, e2, e3, e4, e5, Gg, F, N, Co, hvs, hz, hup⟩
  | _ => cases e3
theorem inst_el {r : Va} {s : St} {h : Heap} {v : AV} {v' : Value} {f : Nat → List (Nat × AV) → Bool} (I : Inv w C D r s h) (hv : VR r v v') (hf : onInst v s f = true) {P : Prop}
    (k : ∀ i c fs g m cells pre post a d ds n, (v = .obj i) → (look i s.objs = some (.inst c fs)) → (f c fs = true) → (v' = .ref a) → (r i = some (.ad a d)) → (Gr D g) → (Fr g D.L h m) → (News g D.L h (cells ++ ((pre ++ ([(a, instObj c d), (d, dictOf ds n)] ++ post)) ++ D.ext))) → (Core w C D r s m cells (pre ++ ([(a, instObj c d), (d, dictOf ds n)] ++ post))) → (DR w.params r (nmF fs) ds) → (ds.length ≤ 40) → ((∀ k v, look k fs = some v → AOk w.params c k)) → (∀ r' o' l₁', r.Le r' → OR w r' i o' l₁' → LedR w r' (upd i o' s.objs) (pre ++ (l₁' ++ post))) → P) : P := by
  obtain ⟨i, c, fs, g, m, cells, pre, post, a, d, ds, n, e0, e1, e2, e3, e4, e5, e6, e7, e8, e9, e10, e11, e12⟩ := inst_at I hv hf
  exact k i c fs g m cells pre post a d ds n e0 e1 e2 e3 e4 e5 e6 e7 e8 e9 e10 e11 e12
theorem dict_el {r : Va} {s : St} {h : Heap} {v : AV} {v' : Value} {f : List (List Nat × AV) → Bool} (I : Inv w C D r s h) (hv : VR r v v') (hf : onDict v s f = true) {P : Prop}
    (k : ∀ i es g m cells pre post a d o kvs, (v = .obj i) → (look i s.objs = some (.dict es)) → (f es = true) → (v' = .ref a) → (r i = some (.ad a d)) → (Gr D g) → (Fr g D.L h m) → (News g D.L h (cells ++ ((pre ++ ([(a, o)] ++ post)) ++ D.ext))) → (Core w C D r s m cells (pre ++ ([(a, o)] ++ post))) → (Obj.IsDictOf (PySem.strKind PG w) o kvs) → (KR r es kvs) → ((a == sysModules) = false) → (es.length ≤ 40) → (∀ r' o' l₁', r.Le r' → OR w r' i o' l₁' → LedR w r' (upd i o' s.objs) (pre ++ (l₁' ++ post))) → P) : P := by
  obtain ⟨i, es, g, m, cells, pre, post, a, d, o, kvs, e0, e1, e2, e3, e4, e5, e6, e7, e8, e9, e10, e11, e12, e13⟩ := dict_at I hv hf
  exact k i es g m cells pre post a d o kvs e0 e1 e2 e3 e4 e5 e6 e7 e8 e9 e10 e11 e12 e13
theorem list_el {r : Va} {s : St} {h : Heap} {v : AV} {v' : Value} {f : List AV → Bool} (I : Inv w C D r s h) (hv : VR r v v') (hf : onList v s f = true) {P : Prop}
    (k : ∀ i xs g m cells pre post a d vs n, (v = .obj i) → (look i s.objs = some (.list xs)) → (f xs = true) → (v' = .ref a) → (r i = some (.ad a d)) → (Gr D g) → (Fr g D.L h m) → (News g D.L h (cells ++ ((pre ++ ([(a, listOf vs.toArray n)] ++ post)) ++ D.ext))) → (Core w C D r s m cells (pre ++ ([(a, listOf vs.toArray n)] ++ post))) → (VRs r xs vs) → (xs.length ≤ 40) → (∀ r' o' l₁', r.Le r' → OR w r' i o' l₁' → LedR w r' (upd i o' s.objs) (pre ++ (l₁' ++ post))) → P) : P := by
  obtain ⟨i, xs, g, m, cells, pre, post, a, d, vs, n, e0, e1, e2, e3, e4, e5, e6, e7, e8, e9, e10, e11⟩ := list_at I hv hf
  exact k i xs g m cells pre post a d vs n e0 e1 e2 e3 e4 e5 e6 e7 e8 e9 e10 e11
theorem snd_attr {x : Sx} {e : PySem.Expr} {a : Nat} {nm : Str} {pos : Pos} (hx : SndX w mg mb means C x e) (hn : nm = mkS (attrL a))
    (he : ∀ env, eval (.Attribute e nm pos) env = (do
      let o ← eval e env
      standAt pos.atName
      let r ← holding [o] (getAttr o nm true)
      letTemporaryGo e o r
      pure r)) : SndX w mg mb means C (xAttr x a) (.Attribute e nm pos) := by
  intro D r s h t k kr Q E G hk I kq ke
  refine Attribute_any_ (hx D r s h t _ kr _ E G hk I (fun r₁ v s₁ v' h₁ t₁ l₁ hk₁ I₁ hv => ?_) ke) (he _)
  refine inst_el I₁ hv hk₁ fun i c fs g m cells pre post ad d ds n q12 e2 e3 q15 e5 Gg F N Co hdr hlen hok hup => ?_
  subst q12
  subst q15
  obtain ⟨u, hu, hku⟩ := onO_some e3
  obtain ⟨hno, hku⟩ := noOpq_some hku
  obtain ⟨ha, hao, htk⟩ := hok a u hu
  obtain ⟨u', hg, hu'⟩ := hdr.get1 ((look_nmF ha).trans hu)
  subst hn
  exact atL (h := h₁) (t := t₁) hao F (Gg.top G).1 N (mem3 (.head _)) (mem3 (.tail _ (.head _))) hg (hu'.handed hno) (kq r₁ u s₁ u' h₁ (t₁ + 1) l₁ hku I₁ hu')
theorem snds_asgA {o x : Sx} {eo e : PySem.Expr} {a : Nat} {nm : Str} {p pos : Pos} (hc : C.hdl = false ∨ True) (hx : SndX w mg mb means C x e) (ho : SndX w mg mb means C o eo) (hn : nm = mkS (attrL a))
    (hs : ∀ (D : Dy) (Q : Flow → Shared → Prop) (E : Value → Shared → Prop) (s : Shared), wpAny (model PG w) (C.A D) (eval e (C.env D)) (fun v s₁ => wpAny (model PG w) (C.A D) (eval eo (C.env D)) (fun ov s₂ => wpAny (model PG w) (C.A D) (setAttr ov nm v) (fun _ => Q .next) E s₂) E s₁) E s → wpAny (model PG w) (C.A D) (exec (.Assign [.Attribute eo nm p] e pos) (C.env D)) Q E s) :
    SndS w mg mb means C (sAsgA o a x) (.Assign [.Attribute eo nm p] e pos) := by
  intro D r s h t k kret kr Q E G hk I fq ke
  refine hs D Q E _ (hx D r s h t _ kr _ E G hk I (fun r₁ v s₁ v' h₁ t₁ l₁ hk₁ I₁ hv => ?_) ke)
  refine ho D r₁ s₁ h₁ t₁ _ kr _ E G hk₁ I₁ (fun r₂ u s₂ u' h₂ t₂ l₂ hk₂ I₂ hu => ?_) fun r₂ v₂ s₂ v₂' h₂ t₂ l₂ => ke r₂ v₂ s₂ v₂' h₂ t₂ (l₁.trans l₂)
  obtain ⟨j, rfl, hk₂⟩ := onI_some hk₂
  refine inst_el I₂ hu hk₂ fun i c fs g m cells pre post ad d ds n e1 e2 e3 q15 e5 Gg F N Co hdr hlen hok hup => ?_
  subst q15
  cases e1
  obtain ⟨z, hz, hkz⟩ := onO_some e3
  obtain ⟨ha, hao, htk⟩ := hok a z hz
  obtain ⟨z', hg, _⟩ := hdr.get1 ((look_nmF ha).trans hz)
  subst hn
  have hv₂ := hv.mono l₂
  obtain ⟨hput, hpl⟩ := hdr.put (k := attrL a) (t := t₂ + 1) hv₂
  rw [putS_nmF ha] at hput
  have hnd := Co.nd
  have e : cells ++ ((pre ++ ([(ad, instObj c d), (d, dictOf ds n)] ++ post)) ++ D.ext) = (cells ++ (pre ++ [(ad, instObj c d)])) ++ (d, dictOf ds n) :: (post ++ D.ext) := by simp
  rw [e] at hnd N
  have hU := upd_mid (o' := dictOf (putL (mkS (attrL a)) (PyData.keyHash w.params (mkS (attrL a))) (.str (mkS (attrL a)) (t₂ + 1)) v' ds) (putN (mkS (attrL a)) ds n)) hnd
  have hlen' : (putL (mkS (attrL a)) (PyData.keyHash w.params (mkS (attrL a))) (.str (mkS (attrL a)) (t₂ + 1)) v' ds).length ≤ 40 := by
    have := hput.len
    have h2 := hdr.len
    have h3 : (nmF (putF a v fs)).length = (nmF fs).length := by
      have : ∀ fs : List (Nat × AV), (look a fs).isSome = true → (putF a v fs).length = fs.length := by
        intro fs
        induction fs with
        | nil => intro h; cases h
        | cons p r ih =>
          obtain ⟨j, y⟩ := p
          unfold putF look
          cases Nat.beq a j with
          | true => intro _; rfl
          | false => intro h; dsimp only; rw [List.length_cons, List.length_cons, ih h]
      unfold nmF; rw [List.length_map, List.length_map, this fs (by rw [hz]; rfl)]
    omega
  refine saL (h := h₂) (t := t₂) (news := (cells ++ (pre ++ [(ad, instObj c d)])) ++ (d, dictOf ds n) :: (post ++ D.ext)) (x := ad) (dx := d) hao.co F (Gg.top G).1 N (by simp) (by simp) htk (by rw [hg]; rfl) rfl hU (by omega) (fun h' F' N' => ?_)
  refine fq.1 r₂ _ h' (t₂ + 2) (l₁.trans l₂) hkz ⟨g, m, cells, pre ++ ([(ad, instObj c d), (d, dictOf _ (putN (mkS (attrL a)) ds n))] ++ post), Gg, F', ?_, ⟨?_, hup r₂ _ _ (Va.Le.refl _) ⟨ad, d, _, _, e5, rfl, hput, hlen', fun k u hk => ?_⟩, Co.new, Co.slot, Co.cv, Co.cell, Co.scr⟩⟩
  · have e' : cells ++ ((pre ++ ([(ad, instObj c d), (d, dictOf (putL (mkS (attrL a)) (PyData.keyHash w.params (mkS (attrL a))) (.str (mkS (attrL a)) (t₂ + 1)) v' ds) (putN (mkS (attrL a)) ds n))] ++ post)) ++ D.ext) = (cells ++ (pre ++ [(ad, instObj c d)])) ++ (d, dictOf (putL (mkS (attrL a)) (PyData.keyHash w.params (mkS (attrL a))) (.str (mkS (attrL a)) (t₂ + 1)) v' ds) (putN (mkS (attrL a)) ds n)) :: (post ++ D.ext) := by simp
    rw [e']; exact N'
  · have := keys_mid (o' := dictOf (putL (mkS (attrL a)) (PyData.keyHash w.params (mkS (attrL a))) (.str (mkS (attrL a)) (t₂ + 1)) v' ds) (putN (mkS (attrL a)) ds n)) hnd
    simpa using this
  · rcases look_putF hk with rfl | hk
    · exact ⟨ha, hao, htk⟩
    · exact hok k u hk
theorem snds_asgP {o x : Sx} {eo e : PySem.Expr} {a : Nat} {nm : Str} {p pos : Pos} (hc : C.hdl = false ∨ True) (hx : SndX w mg mb means C x e) (ho : SndX w mg mb means C o eo) (hn : nm = mkS (attrL a))
    (hs : ∀ env, swapsWith e (some (.Attribute eo nm p)) pos.line env = pure false) : SndS w mg mb means C (sAsgA o a x) (.Assign [.Attribute eo nm p] e pos) :=
  snds_asgA hc hx ho hn fun _ _ _ _ h => plainObj_wpAny_Assign_Attribute h (hs _)
end
section
variable {w : World} {mg mb : Str → Option Value} {means : ExcName → Option Value} {C : Cx} {D : Dy}
theorem intEqB_eq {x y : Int} (h : intEqB x y = true) : x = y := by
  unfold intEqB at h
  split at h
  · rw [Nat.eq_of_beq_eq_true h]
  · rw [Nat.eq_of_beq_eq_true h]
  · cases h
theorem sameAI_eq {a b : AV} (h : sameAI a b = true) : a = b := by
  unfold sameAI at h
  split at h
  · rw [intEqB_eq h]
  · cases h
theorem sames_mem : ∀ {l : List AV} {v : AV}, sames l = some v → ∀ u ∈ l, u = v
  | [], _, h => by cases h
  | [a], v, h => fun u hu => by cases h; simpa using hu
  | a :: b :: r, v, h => fun u hu => by
    unfold sames at h
    split at h
    · rename_i c hc
      split at h
      · rename_i hs
        cases h
        have e := sameAI_eq hs
        rcases List.mem_cons.mp hu with rfl | hu
        · rfl
        · rw [e]; exact sames_mem hc u hu
      · cases h
    · cases h
theorem nths_at {xs : List AV} : ∀ {l : List Int} {vs : List AV}, nths xs l = some vs → ∀ x ∈ l, ∃ u ∈ vs, nth xs x = some u
  | [], _, _, x, hx => nomatch hx
  | i :: r, vs, h, x, hx => by
    unfold nths at h
    split at h
    · rename_i v l' h1 h2
      cases h
      rcases List.mem_cons.mp hx with rfl | hx
      · exact ⟨v, .head _, h1⟩
      · obtain ⟨u, hu, e⟩ := nths_at h2 x hx
        exact ⟨u, .tail _ hu, e⟩
    · cases h
theorem pick_at {r : Va} {xs : List AV} {vs : List Value} {b v : AV} {b' : Value} (hx : VRs r xs vs) (hb : VR r b b') (h : pick xs b = some v) : ∃ n t v', b' = .int (.ofNat n) t ∧ vs[n]? = some v' ∧ VR r v v' ∧ n < xs.length := by
  have key : ∀ n : Int, ∀ u, nth xs n = some u → ∃ j v', n = .ofNat j ∧ vs[j]? = some v' ∧ VR r u v' ∧ j < xs.length := by
    intro n u hn
    cases n with
    | ofNat j =>
      obtain ⟨v', h1, h2⟩ := hx.at hn
      refine ⟨j, v', rfl, h1, h2, ?_⟩
      have := (List.getElem?_eq_some_iff.mp h1).1
      rw [hx.length] at this; exact this
    | negSucc j => cases hn
  cases b with
  | int a =>
    obtain ⟨x, t, ha, rfl⟩ := hb
    cases a with
    | lit n =>
      have ha' : x = n := ha
      subst ha'
      obtain ⟨j, v', rfl, h1, h2, h3⟩ := key x v h
      exact ⟨j, t, v', rfl, h1, h2, h3⟩
    | one l =>
      have h' : (match nths xs l with | some us => sames us | none => none) = some v := h
      split at h'
      · rename_i us hus
        obtain ⟨u, hu, e⟩ := nths_at hus x ha
        have := sames_mem h' u hu
        subst this
        obtain ⟨j, v', rfl, h1, h2, h3⟩ := key x u e
        exact ⟨j, t, v', rfl, h1, h2, h3⟩
      · cases h'
    | sym _ => cases h
    | nz _ => cases h
  | _ => cases h
theorem snd_sub {x y : Sx} {e f : PySem.Expr} {pos : Pos} (hx : SndX w mg mb means C x e) (hy : SndX w mg mb means C y f)
    (hs : ∀ l k u, subscripted f false (.ref l) (.int k u) = operate [.ref l, .int k u] (getItem (.ref l) (.int k u))) : SndX w mg mb means C (xSub x y) (.Subscript e f pos) := by
  intro D r s h t k kr Q E G hk I kq ke
  refine Subscript_ (hx D r s h t _ kr _ E G hk I (fun r₁ v s₁ v' h₁ t₁ l₁ hk₁ I₁ hv => ?_) ke)
  refine hy D r₁ s₁ h₁ t₁ _ kr _ E G hk₁ I₁ (fun r₂ u s₂ u' h₂ t₂ l₂ hk₂ I₂ hu => ?_) fun r₂ v₂ s₂ v₂' h₂ t₂ l₂ => ke r₂ v₂ s₂ v₂' h₂ t₂ (l₁.trans l₂)
  refine obj_el I₂ (hv.mono l₂) hk₂ fun i o g m cells pre l post a d q10 e2 e3 q13 e5 Gg F N Co hor hup => ?_
  subst q10
  subst q13
  obtain ⟨xs, hxs, e3⟩ := onO_some e3
  obtain ⟨z, hz, hkz⟩ := onO_some e3
  cases o with
  | list ys =>
    cases hxs
    obtain ⟨a', d', vs, n, e6, rfl, hvs, hle⟩ := hor
    rw [e5] at e6; cases e6
    obtain ⟨j, tj, z', rfl, h1, h2, h3⟩ := pick_at hvs hu hz
    exact item_led (h := h₂) (t := t₂) (k := .ofNat j) (j := j) N (mem3 (.head _)) rfl (Int.natCast_nonneg j) (by show (j : Int) < 2 ^ 63; omega) h1 (kq r₂ z s₂ z' h₂ t₂ (l₁.trans l₂) hkz I₂ h2) (hs _ _ _)
  | tup ys =>
    cases hxs
    obtain ⟨a', d', vs, n, e6, rfl, hvs, hle⟩ := hor
    rw [e5] at e6; cases e6
    obtain ⟨j, tj, z', rfl, h1, h2, h3⟩ := pick_at hvs hu hz
    have hT : IsTup h₂ a vs.toArray := ⟨_, (N _ (mem3 (.head _))).1, rfl, n, rfl⟩
    have ej : (Int.ofNat j) = (j : Int) := rfl
    have hl := hvs.length
    refine item_tupleT (s := ⟨h₂, D.gs, D.d, t₂, D.os⟩) hT (by show -(2 ^ 63) ≤ (j : Int); omega) (by show (j : Int) < 2 ^ 63; omega) (j := j) ?_ h1 (kq r₂ z s₂ z' h₂ t₂ (l₁.trans l₂) hkz I₂ h2) (hs _ _ _)
    show seqIndex? (j : Int) vs.length = some j
    have h3' : j < vs.length := by omega
    unfold seqIndex?
    simp [h3']
    omega
  | _ => cases hxs
theorem KR.get {r : Va} {l kvs} (x : KR r l kvs) {k : List Nat} : match lookS k l with | some v => ∃ v', valueAt kvs (mkS k) = some v' ∧ VR r v v' | none => valueAt kvs (mkS k) = none := by
  induction x with
  | nil => rfl
  | @cons k' a v l es hv x ih =>
    have e : valueAt ((mkS k', v) :: es) (mkS k) = if mkS k' = mkS k then some v else valueAt es (mkS k) := by
      unfold valueAt
      rw [List.find?_cons]
      by_cases q : mkS k' = mkS k
      · simp [q]
      · simp [q]
    rw [e]
    show match (match strEq k k' with | true => some a | false => lookS k l) with | some v => _ | none => _
    cases h : strEq k k' with
    | true => exact ⟨v, by rw [if_pos (by rw [strEq_iff.mp h])], hv⟩
    | false =>
      rw [if_neg (fun q => by rw [strEq_iff.mpr (mkS_inj q).symm] at h; cases h)]
      exact ih
theorem KR.len {r : Va} {l kvs} (x : KR r l kvs) : kvs.length = l.length := by
  induction x with
  | nil => rfl
  | cons _ _ ih => rw [List.length_cons, List.length_cons, ih]
theorem dict_of {g h : Heap} {L : Addr} {a : Addr} {o : Obj} {kvs : List (Str × Value)} {news : List (Addr × Obj)} (N : News g L h news) (hm : (a, o) ∈ news) (hd : o.IsDictOf (PySem.strKind PG w) kvs) : h.DictOf (PySem.strKind PG w) a kvs :=
  Heap.dictOf_iff.mpr ⟨o, (N _ hm).1, hd⟩
theorem not_sys {a : Addr} (h : 1 < a) : (a == sysModules) = false := by
  have : sysModules = 1 := rfl
  rw [this]; simp; intro e; subst e; exact absurd h (by decide)
theorem snd_subK {x y : Sx} {e f : PySem.Expr} {pos : Pos} (hx : SndX w mg mb means C x e) (hy : SndX w mg mb means C y f)
    (hs : ∀ l k u, subscripted f false (.ref l) (.str k u) = operate [.ref l, .str k u] (getItem (.ref l) (.str k u))) : SndX w mg mb means C (xSubK x y) (.Subscript e f pos) := by
  intro D r s h t k kr Q E G hk I kq ke
  refine Subscript_ (hx D r s h t _ kr _ E G hk I (fun r₁ v s₁ v' h₁ t₁ l₁ hk₁ I₁ hv => ?_) ke)
  refine hy D r₁ s₁ h₁ t₁ _ kr _ E G hk₁ I₁ (fun r₂ u s₂ u' h₂ t₂ l₂ hk₂ I₂ hu => ?_) fun r₂ v₂ s₂ v₂' h₂ t₂ l₂ => ke r₂ v₂ s₂ v₂' h₂ t₂ (l₁.trans l₂)
  refine dict_el I₂ (hv.mono l₂) hk₂ fun i es g m cells pre post a d o kvs q11 e2 e3 q14 e5 Gg F N Co hdo hkr hlt hle hup => ?_
  subst q11
  subst q14
  obtain ⟨q, rfl, e3⟩ := onS_some e3
  obtain ⟨z, hz, hkz⟩ := onO_some e3
  obtain ⟨_, tq, rfl, rfl⟩ := hu
  have hg := hkr.get (k := q)
  rw [hz] at hg
  obtain ⟨z', hg, hz'⟩ := hg
  have hm := (dict_of (w := w) N (mem3 (.head _)) hdo)
  exact tail_any (s := ⟨h₂, D.gs, D.d, t₂, D.os⟩) hm.mapOf.typeIs slot_dict_getitem.lookup (wpAny_getItem_of (strKind_is PG w _ tq) hm.mapOf hg (kq r₂ z s₂ z' h₂ (t₂ + 1) (l₁.trans l₂) hkz I₂ hz')) (hs _ _ _)
end
section
variable {w : World} {mg mb : Str → Option Value} {means : ExcName → Option Value} {C : Cx} {D : Dy}
noncomputable def BiOk (w : World) (f : Value) (B : AV → St → KV → Bool) : Prop :=
  ∀ (C : Cx) (D : Dy) (mg mb : Str → Option Value) (means : ExcName → Option Value) (r : Va) (s : St) (h : Heap) (t : Nat) (v : AV) (v' : Value) (k : KV) (Q E : Value → Shared → Prop), Good w mg mb means C D → C.hdl = false → B v s k = true → Inv w C D r s h → VR r v v' →
    (∀ r' u s' u' h' t', r.Le r' → k u s' = true → Inv w C D r' s' h' → VR r' u u' → Q u' ⟨h', D.gs, D.d, t', D.os⟩) → wpAny (model PG w) (C.A D) (call f [v']) Q E ⟨h, D.gs, D.d, t, D.os⟩
theorem snd_bi {f : Value} {B : AV → St → KV → Bool} {x : Sx} {e : PySem.Expr} {nm : Str} {p pos : Pos} (hB : BiOk w f B) (hh : C.hdl = false) (gb : GB w.params nm f) (hf : (∃ i, f = .builtin i) ∨ ∃ i, f = .type i) (hko : kOf C nm = some .globalImplicit) (hdb : (nm == ("__debug__" : Str)) = false)
    (hx : SndX w mg mb means C x e) (hst : ∀ env, starEach [e] env = [(false, eval e env)]) : SndX w mg mb means C (bi1 B x) (.Call (.Name nm p) [e] [] pos) := by
  intro D r s h t k kr Q E G hk I kq ke
  have I' := I
  refine Inv.el I fun g m cells news Gg F N Co => ?_
  refine Call_ (rd_bi G Gg F gb hko hdb ?_) rfl
  have hargs : wpAny (model PG w) (C.A D) (spliced (backTo pos (starEach [e] (C.env D)))) (fun vs s₁ => wpAny (model PG w) (C.A D) (call f vs) Q E s₁) E ⟨h, D.gs, D.d, t, D.os⟩ := by
    refine args_cons (hx D r s h t _ kr _ E G hk I' (fun r₁ v s₁ v' h₁ t₁ l₁ hk₁ I₁ hv => args_nil ?_) ke) (hst _)
    exact hB C D mg mb means r₁ s₁ h₁ t₁ v v' k Q E G hh hk₁ I₁ hv fun r₂ u s₂ u' h₂ t₂ l₂ => kq r₂ u s₂ u' h₂ t₂ (l₁.trans l₂)
  rcases hf with ⟨i, rfl⟩ | ⟨i, rfl⟩
  · exact PyProof.Rows.callWith_builtin1 hargs (hst _) rfl
  · exact PyProof.Rows.callWith_type1 hargs (hst _) rfl
theorem bi_len : BiOk w (.builtin "len") bLen := by
  intro C D mg mb means r s h t v v' k Q E G hh hk I hv kq
  refine obj_el I hv hk fun i o g m cells pre l post a d q10 e2 e3 q13 e5 Gg F N Co hor hup => ?_
  subst q10
  subst q13
  obtain ⟨n, hn, hkn⟩ := onO_some e3
  cases o with
  | list ys =>
    cases hn
    obtain ⟨a', d', vs, n, e6, rfl, hvs, hle⟩ := hor
    rw [e5] at e6; cases e6
    have hl := hvs.length
    have hL : h.IsList a vs.toArray := ⟨_, (N _ (mem3 (.head _))).1, rfl, n, rfl⟩
    refine PyProof.Rows.len_list (s := ⟨h, D.gs, D.d, t, D.os⟩) hL (by rw [List.size_toArray]; omega) ?_
    refine kq r (.int (.lit (.ofNat ys.length))) s _ h _ (Va.Le.refl r) hkn I ⟨(ys.length : Int), t + 1, rfl, ?_⟩
    rw [List.size_toArray, hl]
  | dict es =>
    cases hn
    obtain ⟨a', d', o, kvs, e6, rfl, hdo, hkr, hlt, hle⟩ := hor
    rw [e5] at e6; cases e6
    have hl := hkr.len
    have hD := dict_of (w := w) N (mem3 (.head _)) hdo
    refine call_len_dict (s := ⟨h, D.gs, D.d, t, D.os⟩) hlt hD (by omega) ?_
    refine kq r (.int (.lit (.ofNat es.length))) s _ h _ (Va.Le.refl r) hkn I ⟨(es.length : Int), t + 1, rfl, ?_⟩
    rw [hl]
  | _ => cases hn
theorem mkS_nil : mkS [] = Str.ofString "" := by decide +kernel
theorem mkS_append (a b : List Nat) : mkS a ++ mkS b = mkS (a ++ b) := by
  show Str.append (mkS a) (mkS b) = mkS (a ++ b)
  unfold Str.append mkS
  simp
theorem str_zero : (Str.ofString (toString (0 : Int))) = mkS [48] := by decide +kernel
theorem bi_str : BiOk w (.type "str") bStr := by
  intro C D mg mb means r s h t v v' k Q E G hh hk I hv kq
  obtain ⟨z, hz, hkz⟩ := onO_some hk
  have sy : ∀ i x, r i = some (.num x) → x.natAbs < 2 ^ 62 → z = .num [] i → ∀ u, wpAny (model PG w) (C.A D) (call (.type "str") [.int x u]) Q E ⟨h, D.gs, D.d, t, D.os⟩ := by
    intro i x e hb q u
    subst q
    refine str_of_int_fit (N := 2 ^ 62) (by split <;> omega) (by decide) fun _ => kq r _ s _ h _ (Va.Le.refl r) hkz I ⟨_, _, ⟨x, e, hb, ?_⟩, rfl⟩
    have : mkS [] ++ Str.ofString (toString x) = Str.ofString (toString x) := by
      show Str.append (mkS []) _ = _
      unfold Str.append mkS
      simp
    rw [this]
  cases v with
  | int a =>
    obtain ⟨x, u, ha, rfl⟩ := hv
    cases a with
    | sym i => exact sy i x ha.1 ha.2 (by cases hz; rfl) u
    | nz i => exact sy i x ha.1 ha.2.1 (by cases hz; rfl) u
    | lit n =>
      have ha' : x = n := ha
      subst ha'
      unfold strOf at hz
      split at hz
      · rename_i q; cases q
      · rename_i q; cases q
      · rename_i q
        cases q
        cases hz
        refine str_of_int_fit (N := 1) (by decide) (by decide) fun _ => kq r _ s _ h _ (Va.Le.refl r) hkz I ⟨_, _, ?_, rfl⟩
        exact str_zero
      · rename_i q; cases q
      · cases hz
    | one l => cases hz
  | str a =>
    cases hz
    obtain ⟨x, u, ha, rfl⟩ := hv
    exact P.str_of_str (kq r (.str z) s _ h t (Va.Le.refl r) hkz I ⟨x, u, ha, rfl⟩)
  | _ => cases hz
end
section
variable {w : World} {mg mb : Str → Option Value} {means : ExcName → Option Value} {C : Cx} {D : Dy}
theorem Good.handled (G : Good w mg mb means C D) (hh : C.hdl = false) : (C.A D).handled = none := G.hd hh
theorem bi_lst : BiOk w (.type "list") bLst := by
  intro C D mg mb means r s h t v v' k Q E G hh hk I hv kq
  have I' := I
  refine obj_el I hv hk fun i o g m cells pre l post a d q10 e2 e3 q13 e5 Gg F N Co hor hup => ?_
  subst q10
  subst q13
  cases o with
  | list ys =>
    obtain ⟨a', d', vs, n, e6, rfl, hvs, hle⟩ := hor
    rw [e5] at e6; cases e6
    have hl := hvs.length
    have hL : h.IsList a vs.toArray := ⟨_, (N _ (mem3 (.head _))).1, rfl, n, rfl⟩
    obtain ⟨hf, hka⟩ := alloc_some e3
    refine list_copyK (s := ⟨h, D.gs, D.d, t, D.os⟩) F N hL (fun A c h' F' N' lt => ?_) (by rw [List.size_toArray, sizeLine_eq]; omega)
    obtain ⟨r', l, e, I₂⟩ := alloc1 (o := .list ys) Gg F' N' lt Co fun r' l e => ⟨A, 0, vs, c, e, rfl, hvs.mono l, hle⟩
    exact kq r' _ _ _ h' t l hka I₂ ⟨A, 0, e, rfl⟩
  | dict es =>
    obtain ⟨a', d', o, kvs, e6, rfl, hdo, hkr, hlt, hle⟩ := hor
    rw [e5] at e6; cases e6
    obtain ⟨hf, hka⟩ := alloc_some e3
    have hkl := hkr.len
    refine kdl_list_keysS (s := ⟨h, D.gs, D.d, t, D.os⟩) (kvs := kvs) (G.handled hh) F N (mem3 (.head _)) hdo hlt (by omega) (fun A c h' tk => ?_)
    have all : ∀ {es : List (List Nat × AV)} {kvs : List (Str × Value)} {P : List Value → Prop}, KR r es kvs → (∀ vs, VRs r (keysOf es) vs → P vs) → KdlKeysS kvs P := by
      intro es kvs P x
      induction x generalizing P with
      | nil => intro h; exact h [] .nil
      | cons hv x ih => intro h; exact fun t => ih fun vs hvs => h _ (.cons ⟨_, t, rfl, rfl⟩ hvs)
    refine all hkr fun vs hvs F' N' lt => ?_
    obtain ⟨r', l, e, I₂⟩ := alloc1 (o := .list (keysOf es)) Gg F' N' lt Co fun r' l e => ⟨A, 0, vs, c, e, rfl, hvs.mono l, small_le hf⟩
    exact kq r' _ _ _ h' tk l hka I₂ ⟨A, 0, e, rfl⟩
  | _ => cases e3
theorem takeL_rel {r : Va} {xs : List AV} {vs : List Value} (x : VRs r xs vs) : ∀ n, VRs r (takeL n xs) (vs.take n) := by
  induction x with
  | nil => intro n; cases n <;> exact .nil
  | cons a _ ih => intro n; cases n with
    | zero => exact .nil
    | succ n => exact .cons a (ih n)
theorem dropL_rel {r : Va} {xs : List AV} {vs : List Value} (x : VRs r xs vs) : ∀ n, VRs r (dropL n xs) (vs.drop n) := by
  induction x with
  | nil => intro n; cases n <;> exact .nil
  | cons a h ih => intro n; cases n with
    | zero => exact .cons a h
    | succ n => exact ih n
theorem slice_any {A : Around} {E Q : Value → Shared → Prop} {g h : Heap} {L l : Addr} {m : Str → Option Value} {news : List (Addr × Obj)} {gs : Array GenState} {d : Drawn} {t : Nat} {os : OsState} {value slice : PySem.Expr} {items : Array Value} {vl vu : Value} {lo hi : Option Int}
    (F : Fr g L h m) (N : News g L h news) (hl : h.IsList l items) (pl : IsPart vl lo) (pu : IsPart vu hi)
    (k : ∀ h', Fr g L h' m → News g L h' ((h.objs.size + 1, { cls := .type "list", data := .seq (slicePick items lo hi none) }) :: news) → Q (.ref (h.objs.size + 1)) ⟨h', gs, d, t, os⟩)
    (hs : subscripted slice false (.ref l) (.ref h.objs.size) = operate [.ref h.objs.size, .ref l] (getItem (.ref l) (.ref h.objs.size))) (hsz : items.size ≤ sizeLine) :
    wpAny (model PG w) A (subscriptTail value slice (.ref l) (.ref h.objs.size)) Q E ⟨h.push { cls := .type "slice", data := .fields #[vl, vu, .none] }, gs, d, t, os⟩ := by
  refine tail_any (s := ⟨h.push { cls := .type "slice", data := .fields #[vl, vu, .none] }, gs, d, t, os⟩) (Heap.IsList.typeIs (s := ⟨h.push { cls := .type "slice", data := .fields #[vl, vu, .none] }, gs, d, t, os⟩) (hl.push _)) list_getitem_lookup
    (wpAny_getItem_list_slice (hl.push _) (Heap.IsSliceOf.new ..) pl pu .none (by simp) ?_ hsz) hs
  have N1 := News.push (F.push { cls := .type "slice", data := .fields #[vl, vu, .none] }) (N.grown fun _ _ e => Heap.get?_push_of_some _ e) { cls := .type "list", data := .seq (slicePick items lo hi none) }
  rw [Heap.size_push] at N1
  show Q (.ref (h.push _).objs.size) _
  rw [Heap.size_push]
  exact k _ ((F.push _).push _) N1
theorem slicePick_upto' (items : Array Value) (b : Nat) : slicePick items none (some b) none = (items.toList.take b).toArray := by
  rw [slicePick_plain]
  simp only [Option.elim, clipAt_nat]
  congr 1
  simp
theorem snd_slHi {x y : Sx} {e f : PySem.Expr} {p pos : Pos} (hx : SndX w mg mb means C x e) (hy : SndX w mg mb means C y f) 
    (hs : ∀ l i, subscripted (.Slice none (some f) none p) false (.ref l) (.ref i) = operate [.ref i, .ref l] (getItem (.ref l) (.ref i))) : SndX w mg mb means C (xSlHi x y) (.Subscript e (.Slice none (some f) none p) pos) := by
  intro D r s h t k kr Q E G hk I kq ke
  refine Subscript_ (hx D r s h t _ kr _ E G hk I (fun r₁ v s₁ v' h₁ t₁ l₁ hk₁ I₁ hv => ?_) ke)
  refine wpAny_Slice (wpAny_evalPart_none (wpAny_evalPart_some ?_))
  refine hy D r₁ s₁ h₁ t₁ _ kr _ E G hk₁ I₁ (fun r₂ u s₂ u' h₂ t₂ l₂ hk₂ I₂ hu => wpAny_evalPart_none ?_) fun r₂ v₂ s₂ v₂' h₂ t₂ l₂ => ke r₂ v₂ s₂ v₂' h₂ t₂ (l₁.trans l₂)
  refine list_el I₂ (hv.mono l₂) hk₂ fun i xs g m cells pre post a d vs n q11 e2 e3 q14 e5 Gg F N Co hvs hle hup => ?_
  subst q11
  subst q14
  obtain ⟨j, rfl, e3⟩ := onN_some e3
  obtain ⟨hf, hka⟩ := alloc_some e3
  obtain ⟨_, tj, rfl, rfl⟩ := hu
  have hL : h₂.IsList a vs.toArray := ⟨_, (N _ (mem3 (.head _))).1, rfl, n, rfl⟩
  have hl := hvs.length
  refine slice_any (t := t₂) F N hL .none (.int _ tj) (fun h' F' N' => ?_) (hs _ _) (by rw [List.size_toArray, sizeLine_eq]; omega)
  have e : slicePick vs.toArray none (some (Int.ofNat j)) none = (vs.take j).toArray := slicePick_upto' vs.toArray j
  rw [e] at N'
  obtain ⟨r', l, e, I₃⟩ := alloc1 (o := .list (takeL j xs)) Gg F' N' (fun p hp => Nat.lt_succ_of_lt (Heap.lt_size (N p hp).1)) Co fun r' l e => ⟨_, 0, vs.take j, 0, e, rfl, (takeL_rel hvs j).mono l, small_le hf⟩
  exact kq r' _ _ _ h' t₂ ((l₁.trans l₂).trans l) hka I₃ ⟨_, 0, e, rfl⟩
theorem snd_slLo {x y : Sx} {e f : PySem.Expr} {p pos : Pos} (hx : SndX w mg mb means C x e) (hy : SndX w mg mb means C y f) 
    (hs : ∀ l i, subscripted (.Slice (some f) none none p) false (.ref l) (.ref i) = operate [.ref i, .ref l] (getItem (.ref l) (.ref i))) : SndX w mg mb means C (xSlLo x y) (.Subscript e (.Slice (some f) none none p) pos) := by
  intro D r s h t k kr Q E G hk I kq ke
  refine Subscript_ (hx D r s h t _ kr _ E G hk I (fun r₁ v s₁ v' h₁ t₁ l₁ hk₁ I₁ hv => ?_) ke)
  refine wpAny_Slice (wpAny_evalPart_some ?_)
  refine hy D r₁ s₁ h₁ t₁ _ kr _ E G hk₁ I₁ (fun r₂ u s₂ u' h₂ t₂ l₂ hk₂ I₂ hu => wpAny_evalPart_none (wpAny_evalPart_none ?_)) fun r₂ v₂ s₂ v₂' h₂ t₂ l₂ => ke r₂ v₂ s₂ v₂' h₂ t₂ (l₁.trans l₂)
  refine list_el I₂ (hv.mono l₂) hk₂ fun i xs g m cells pre post a d vs n q11 e2 e3 q14 e5 Gg F N Co hvs hle hup => ?_
  subst q11
  subst q14
  obtain ⟨j, rfl, e3⟩ := onN_some e3
  obtain ⟨hf, hka⟩ := alloc_some e3
  obtain ⟨_, tj, rfl, rfl⟩ := hu
  have hL : h₂.IsList a vs.toArray := ⟨_, (N _ (mem3 (.head _))).1, rfl, n, rfl⟩
  have hl := hvs.length
  refine slice_any (t := t₂) F N hL (.int _ tj) .none (fun h' F' N' => ?_) (hs _ _) (by rw [List.size_toArray, sizeLine_eq]; omega)
  have e : slicePick vs.toArray (some (Int.ofNat j)) none none = (vs.drop j).toArray := slicePick_from' vs.toArray j
  rw [e] at N'
  obtain ⟨r', l, e, I₃⟩ := alloc1 (o := .list (dropL j xs)) Gg F' N' (fun p hp => Nat.lt_succ_of_lt (Heap.lt_size (N p hp).1)) Co fun r' l e => ⟨_, 0, vs.drop j, 0, e, rfl, (dropL_rel hvs j).mono l, small_le hf⟩
  exact kq r' _ _ _ h' t₂ ((l₁.trans l₂).trans l) hka I₃ ⟨_, 0, e, rfl⟩
end
theorem intEqB_is (x y : Int) : intEqB x y = (x == y) := by
  cases h : intEqB x y with
  | true => rw [intEqB_eq h]; simp
  | false =>
    symm
    rw [beq_eq_false_iff_ne]
    intro e
    subst e
    unfold intEqB at h
    cases x with
    | ofNat m => simp at h
    | negSucc m => simp at h
theorem intLtB_is (x y : Int) : intLtB x y = decide (x < y) := by
  unfold intLtB
  cases x with
  | ofNat m => cases y with
    | ofNat n =>
      dsimp only
      cases h : Nat.blt m n with
      | true => have := Nat.le_of_ble_eq_true h; symm; rw [decide_eq_true_iff]; show (m : Int) < (n : Int); omega
      | false => symm; rw [decide_eq_false_iff_not]; intro e; have e' : (m : Int) < (n : Int) := e; have : Nat.blt m n = true := Nat.ble_eq_true_of_le (by omega); rw [h] at this; cases this
    | negSucc n => symm; rw [decide_eq_false_iff_not]; intro e; have e' : (m : Int) < Int.negSucc n := e; omega
  | negSucc m => cases y with
    | ofNat n => symm; rw [decide_eq_true_iff]; show Int.negSucc m < (n : Int); omega
    | negSucc n =>
      dsimp only
      cases h : Nat.blt n m with
      | true => have := Nat.le_of_ble_eq_true h; symm; rw [decide_eq_true_iff]; omega
      | false => symm; rw [decide_eq_false_iff_not]; intro e; have : Nat.blt n m = true := Nat.ble_eq_true_of_le (by omega); rw [h] at this; cases this
theorem allSame_is {f : Int → Bool} : ∀ {l : List Int} {c : Bool}, allSame f l = some c → ∀ x ∈ l, f x = c
  | [], _, h => by cases h
  | [a], c, h => fun x hx => by cases h; rw [List.mem_singleton.mp hx]
  | a :: b :: r, c, h => fun x hx => by
    have h' : agree (allSame f (b :: r)) (f a) = some c := h
    unfold agree at h'
    split at h'
    · rename_i e1 e2; cases h'
      rcases List.mem_cons.mp hx with rfl | hx
      · exact e2
      · exact allSame_is e1 x hx
    · rename_i e1 e2; cases h'
      rcases List.mem_cons.mp hx with rfl | hx
      · exact e2
      · exact allSame_is e1 x hx
    · cases h'
theorem aiEq_is {r : Va} {a b : AI} {c : Bool} {x y : Int} (h : aiEq a b = some c) (hx : AIR r a x) (hy : AIR r b y) : (x == y) = c := by
  unfold aiEq at h
  split at h
  · cases h; cases hx; cases hy; exact (intEqB_is _ _).symm
  · split at h
    · rename_i e; cases h
      have := Nat.eq_of_beq_eq_true e; subst this
      have e1 := hx.1; rw [hy.1] at e1; cases e1; simp
    · cases h
  · split at h
    · rename_i e; cases h
      have := Nat.eq_of_beq_eq_true e; subst this
      have e1 := hx.1; rw [hy.1] at e1; cases e1; simp
    · cases h
  · split at h
    · rename_i e; cases h
      have := intEqB_eq e; subst this
      cases hy
      exact beq_eq_false_iff_ne.mpr hx.2.2
    · cases h
  · cases hy
    have := allSame_is h x hx
    rw [← intEqB_is]; exact this
  · cases h
theorem aiLt_is {r : Va} {a b : AI} {c : Bool} {x y : Int} (h : aiLt a b = some c) (hx : AIR r a x) (hy : AIR r b y) : decide (x < y) = c := by
  unfold aiLt at h
  split at h
  · cases h; cases hx; cases hy; exact (intLtB_is _ _).symm
  · cases hy
    have := allSame_is h x hx
    rw [← intLtB_is]; exact this
  · cases h
theorem asNe_is {a b : List Nat} {z : Str} {c : Bool} (h : asNe a b = some c) : (mkS a ++ z == mkS b) = c ∧ (mkS b == mkS a ++ z) = c := by
  have key : c = false ∧ mkS a ++ z ≠ mkS b := by
    unfold asNe at h
    split at h
    · rename_i x r y q
      split at h
      · rename_i e; cases h
        refine ⟨rfl, fun e' => Nat.ne_of_beq_eq_false e ?_⟩
        have := congrArg (fun s : Str => s.cps.toList.head?) e'
        have e1 : (mkS (x :: r) ++ z).cps.toList.head? = some x := by
          show ((mkS (x :: r)).cps ++ z.cps).toList.head? = some x
          unfold mkS; simp
        have e2 : (mkS (y :: q)).cps.toList.head? = some y := by unfold mkS; simp
        try dsimp only at this
        rw [e1, e2] at this
        cases this; rfl
      · cases h
    · rename_i x r
      cases h
      refine ⟨rfl, fun e' => ?_⟩
      have := congrArg (fun s : Str => s.cps.toList.head?) e'
      have e1 : (mkS (x :: r) ++ z).cps.toList.head? = some x := by
        show ((mkS (x :: r)).cps ++ z.cps).toList.head? = some x
        unfold mkS; simp
      have e2 : (mkS []).cps.toList.head? = none := by unfold mkS; simp
      try dsimp only at this
      rw [e1, e2] at this
      cases this
    · cases h
  obtain ⟨rfl, hne⟩ := key
  exact ⟨beq_eq_false_iff_ne.mpr hne, beq_eq_false_iff_ne.mpr (Ne.symm hne)⟩
theorem asEq_is {r : Va} {a b : AS} {c : Bool} {x y : Str} (h : asEq a b = some c) (hx : ASR r a x) (hy : ASR r b y) : (x == y) = c := by
  unfold asEq at h
  split at h
  · cases h; cases hx; cases hy
    rw [mkS_beq]
    rename_i l l'
    cases q : strEq l' l with
    | true => rw [strEq_iff.mpr (strEq_iff.mp q).symm]
    | false =>
      cases q' : strEq l l' with
      | false => rfl
      | true => rw [strEq_iff.mpr (strEq_iff.mp q').symm] at q; cases q
  · split at h
    · rename_i e
      split at h
      · rename_i e2; cases h
        have := Nat.eq_of_beq_eq_true e; subst this
        have := strEq_iff.mp e2; subst this
        obtain ⟨u, h1, _, rfl⟩ := hx
        obtain ⟨u', h2, _, rfl⟩ := hy
        rw [h1] at h2; cases h2; simp
      · cases h
    · cases h
  · obtain ⟨u, h1, _, rfl⟩ := hx
    cases hy
    exact (asNe_is h).1
  · obtain ⟨u, h1, _, rfl⟩ := hy
    cases hx
    exact (asNe_is h).2
open PySem.SeqAt
section
variable {w : World} {mg mb : Str → Option Value} {means : ExcName → Option Value} {C : Cx} {D : Dy}
theorem avItem_is {r : Va} {a b : AV} {a' b' : Value} {c : Bool} {A : Around} {s : Shared} (h : avItem a b = some c) (ha : VR r a a') (hb : VR r b b') : EqAt A s a' b' c := by
  unfold avItem at h
  split at h
  · cases h; cases ha; cases hb; exact EqAt.same _
  · obtain ⟨x, t, hx, rfl⟩ := ha
    obtain ⟨y, u, hy, rfl⟩ := hb
    rw [← aiEq_is h hx hy]; exact EqAt.int_int _ _ _ _
  · obtain ⟨x, t, hx, rfl⟩ := ha
    obtain ⟨y, u, hy, rfl⟩ := hb
    rw [← asEq_is h hx hy]; exact EqAt.str_str _ _ _ _
  · split at h
    · rename_i e; cases h
      have := Nat.eq_of_beq_eq_true e; subst this
      obtain ⟨x, d, hx, rfl⟩ := ha
      obtain ⟨y, d', hy, rfl⟩ := hb
      rw [hx] at hy; cases hy; exact EqAt.same _
    · cases h
  · split at h
    · rename_i e; cases h
      have := Nat.eq_of_beq_eq_true e; subst this
      have e1 : r _ = some (.val a') := ha
      rw [show r _ = some (.val b') from hb] at e1
      cases e1; exact EqAt.same _
    · cases h
  · cases h
theorem andO_some {a b : Option Bool} {c : Bool} (h : andO a b = some c) : ∃ x y, a = some x ∧ b = some y ∧ c = (x && y) := by
  unfold andO at h
  split at h
  · cases h; exact ⟨true, true, rfl, rfl, rfl⟩
  · rename_i x y hn
    cases h
    refine ⟨x, y, rfl, rfl, ?_⟩
    cases x <;> cases y <;> first | rfl | exact (hn rfl rfl).elim
  · cases h
theorem avItems_is {r : Va} {A : Around} {s : Shared} : ∀ {xs ys : List AV} {vs us : List Value} {c : Bool}, avItems xs ys = some c → VRs r xs vs → VRs r ys us → vs.length = us.length ∧
    ∃ e : Nat → Bool, (∀ j (h1 : j < vs.length) (h2 : j < us.length), EqAt A s vs[j] us[j] (e j)) ∧ (List.range vs.length).all e = c
  | [], [], _, _, c, h, .nil, .nil => by
    cases h; exact ⟨rfl, fun _ => true, fun j h1 _ => absurd h1 (Nat.not_lt_zero _), rfl⟩
  | x :: xs, y :: ys, _, _, c, h, .cons (v := v) (vs := vs) hx hxs, .cons (v := u) (vs := us) hy hys => by
    obtain ⟨b1, b2, e1, e2, rfl⟩ := andO_some (a := avItem x y) (b := avItems xs ys) h
    obtain ⟨hl, e, he, hall⟩ := avItems_is (A := A) (s := s) e2 hxs hys
    refine ⟨by rw [List.length_cons, List.length_cons, hl], fun j => match j with | 0 => b1 | j + 1 => e j, fun j h1 h2 => ?_, ?_⟩
    · cases j with
      | zero => exact avItem_is e1 hx hy
      | succ j => exact he j (by simpa using h1) (by simpa using h2)
    · rw [List.length_cons, List.range_succ_eq_map, List.all_cons, List.all_map]
      show (b1 && (List.range vs.length).all e) = (b1 && b2)
      rw [hall]
  | [], _ :: _, _, _, _, h, _, _ => by cases h
  | _ :: _, [], _, _, _, h, _, _ => by cases h
theorem sameLen_is : ∀ {xs ys : List AV}, sameLen xs ys = decide (xs.length = ys.length)
  | [], [] => rfl
  | [], _ :: _ => by simp [sameLen]
  | _ :: _, [] => by simp [sameLen]
  | _ :: xs, _ :: ys => by
    unfold sameLen
    rw [sameLen_is (xs := xs) (ys := ys)]
    simp
theorem ob_at {r : Va} {s : St} {h : Heap} {i : Nat} {o : Ob} {a d : Addr} (I : Inv w C D r s h) (ho : look i s.objs = some o) (hr : r i = some (.ad a d)) :
    (∀ xs, o = .list xs → ∃ vs, h.IsList a (List.toArray vs) ∧ VRs r xs vs) ∧ (∀ xs, o = .tup xs → ∃ vs, h.IsTuple a (List.toArray vs) ∧ VRs r xs vs) := by
  refine Inv.el I fun g m cells news Gg F N Co => ?_
  obtain ⟨pre, l₁, post, rfl, hor, hup⟩ := Co.led.look ho
  refine ⟨fun xs e => ?_, fun xs e => ?_⟩
  · subst e
    obtain ⟨a', d', vs, n, e6, rfl, hvs, hle⟩ := hor
    rw [hr] at e6; cases e6
    exact ⟨vs, ⟨_, (N _ (mem3 (.head _))).1, rfl, n, rfl⟩, hvs⟩
  · subst e
    obtain ⟨a', d', vs, n, e6, rfl, hvs, hle⟩ := hor
    rw [hr] at e6; cases e6
    exact ⟨vs, ⟨_, (N _ (mem3 (.head _))).1, rfl, n, rfl⟩, hvs⟩
theorem tupObj_is {objs : List (Nat × Ob)} {j : Nat} {c : Bool} (h : tupObj objs j = some c) : c = false ∧ ∃ xs, look j objs = some (.tup xs) := by
  unfold tupObj at h
  split at h
  · rename_i o ho
    cases o with
    | tup xs => cases h; exact ⟨rfl, xs, ho⟩
    | _ => cases h
  · cases h
theorem avEq_is {r : Va} {s : St} {h : Heap} {a b : AV} {a' b' : Value} {c : Bool} {A : Around} {t : Nat} (I : Inv w C D r s h) (hc : avEq s.objs a b = some c) (ha : VR r a a') (hb : VR r b b') (hu : A.units < cLine) :
    RcAt A ⟨h, D.gs, D.d, t, D.os⟩ a' b' c ∧ RcNeAt A ⟨h, D.gs, D.d, t, D.os⟩ a' b' (!c) := by
  unfold avEq at hc
  split at hc
  · cases hc; cases ha; cases hb
    rename_i x y
    have : boolEq x y = (x == y) := by cases x <;> cases y <;> rfl
    rw [this]
    exact ⟨RcAt.bool_bool _ _, RcNeAt.bool_bool _ _⟩
  · obtain ⟨x, t, hx, rfl⟩ := ha
    obtain ⟨y, u, hy, rfl⟩ := hb
    rw [← aiEq_is hc hx hy]; exact ⟨RcAt.int_int _ _ _ _, RcNeAt.int_int _ _ _ _⟩
  · obtain ⟨x, t, hx, rfl⟩ := ha
    obtain ⟨y, u, hy, rfl⟩ := hb
    rw [← asEq_is hc hx hy]; exact ⟨RcAt.str_str _ _ _ _, RcNeAt.str_str _ _ _ _⟩
  · obtain ⟨x, d, hx, rfl⟩ := ha
    obtain ⟨y, d', hy, rfl⟩ := hb
    unfold eqObj at hc
    split at hc
    · rename_i o ho
      split at hc
      · rename_i p hp
        unfold obEq at hc
        split at hc
        · rename_i xs ys
          obtain ⟨vs, hl, hvs⟩ := (ob_at I ho hx).1 xs rfl
          obtain ⟨us, hl', hus⟩ := (ob_at I hp hy).1 ys rfl
          split at hc
          · obtain ⟨hlen, e, he, hall⟩ := avItems_is (A := A.in1) (s := ⟨h, D.gs, D.d, t, D.os⟩) hc hvs hus
            have e1 : (List.range vs.toArray.size).all e = c := by rw [List.size_toArray]; exact hall
            have he' : ∀ j (h1 : j < vs.toArray.size) (h2 : j < us.toArray.size), EqAt A.in1 ⟨h, D.gs, D.d, t, D.os⟩ vs.toArray[j] us.toArray[j] (e j) := fun j h1 h2 => by
              simpa using he j (by simpa using h1) (by simpa using h2)
            rw [← e1]
            exact ⟨RcAt.lists hl hl' (by simpa using hlen) hu he', RcNeAt.lists hl hl' (by simpa using hlen) hu he'⟩
          · rename_i e
            cases hc
            rw [sameLen_is] at e
            have e' := of_decide_eq_false e
            have : (vs.toArray.size != us.toArray.size) = true := by
              rw [List.size_toArray, List.size_toArray, hvs.length, hus.length]; simpa using e'
            exact ⟨RcAt.lists_lengths hl hl' this hu, RcNeAt.lists_lengths hl hl' this hu⟩
        · rename_i xs ys
          obtain ⟨vs, hl, hvs⟩ := (ob_at I ho hx).2 xs rfl
          obtain ⟨us, hl', hus⟩ := (ob_at I hp hy).2 ys rfl
          obtain ⟨hlen, e, he, hall⟩ := avItems_is (A := A.in1) (s := ⟨h, D.gs, D.d, t, D.os⟩) hc hvs hus
          have e1 : ((List.range (min vs.toArray.size us.toArray.size)).all e && vs.toArray.size == us.toArray.size) = c := by
            rw [List.size_toArray, List.size_toArray, hlen, Nat.min_self, ← hlen, hall]; simp
          have he' : ∀ j (h1 : j < vs.toArray.size) (h2 : j < us.toArray.size), EqAt A.in1 ⟨h, D.gs, D.d, t, D.os⟩ vs.toArray[j] us.toArray[j] (e j) := fun j h1 h2 => by
            simpa using he j (by simpa using h1) (by simpa using h2)
          rw [← e1]
          exact ⟨RcAt.tuples hl hl' hu he', RcNeAt.tuples hl hl' hu he'⟩
        · cases hc
      · cases hc
    · cases hc
  · obtain ⟨rfl, xs, ho⟩ := tupObj_is hc
    obtain ⟨x, t, hx, rfl⟩ := ha
    obtain ⟨y, d', hy, rfl⟩ := hb
    obtain ⟨vs, hl, hvs⟩ := (ob_at I ho hy).2 xs rfl
    exact ⟨RcAt.int_tuple _ _ hl hu, RcNeAt.int_tuple _ _ hl hu⟩
  · obtain ⟨rfl, xs, ho⟩ := tupObj_is hc
    obtain ⟨x, t, hx, rfl⟩ := ha
    obtain ⟨y, d', hy, rfl⟩ := hb
    obtain ⟨vs, hl, hvs⟩ := (ob_at I ho hy).2 xs rfl
    exact ⟨RcAt.str_tuple _ _ hl hu, RcNeAt.str_tuple _ _ hl hu⟩
  · cases hc
theorem Good.room (G : Good w mg mb means C D) : (C.A D).units < cLine := Nat.lt_of_le_of_lt (Nat.le_add_right _ _) G.un
theorem cmp_eq : CmpOk w .Eq .eq := fun C D mg mb means r s h t a b a' b' c Q E G hc I ha hb kq =>
  cmp_ofEq ((avEq_is I hc ha hb G.room).1 PG w E Q (kq t))
theorem bnot_some {o : Option Bool} {c : Bool} (h : bnot o = some c) : ∃ b, o = some b ∧ c = !b := by
  cases o with
  | none => cases h
  | some b => cases b <;> (cases h; exact ⟨_, rfl, rfl⟩)
theorem cmp_ne : CmpOk w .NotEq .ne := fun C D mg mb means r s h t a b a' b' c Q E G hc I ha hb kq => by
  obtain ⟨b, hb', rfl⟩ := bnot_some hc
  exact cmp_ofNotEq ((avEq_is I hb' ha hb G.room).2 PG w E Q (kq t))
theorem cmp_lt : CmpOk w .Lt .lt := fun C D mg mb means r s h t a b a' b' c Q E G hc I ha hb kq => by
  have hc' : avLt a b = some c := hc
  unfold avLt at hc'
  split at hc'
  · obtain ⟨x, t, hx, rfl⟩ := ha
    obtain ⟨y, u, hy, rfl⟩ := hb
    exact wpAny_lt_int (by rw [aiLt_is hc' hx hy]; exact kq _)
  · cases hc'
theorem avIs_is {r : Va} {a b : AV} {a' b' : Value} {c : Bool} (h : avIs a b = some c) (ha : VR r a a') (hb : VR r b b') : plainIs a' b' = true ∧ (a' == b') = c := by
  unfold avIs at h
  split at h
  · cases h; cases ha; cases hb; exact ⟨rfl, rfl⟩
  · cases h; cases ha; cases hb; exact ⟨rfl, rfl⟩
  · cases h; obtain ⟨x, t, hx, rfl⟩ := ha; cases hb; exact ⟨rfl, rfl⟩
  · cases h; obtain ⟨x, t, hx, rfl⟩ := ha; cases hb; exact ⟨rfl, rfl⟩
  · cases h; obtain ⟨x, t, hx, rfl⟩ := ha; cases hb; exact ⟨rfl, rfl⟩
  · cases h
theorem cmp_is : CmpOk w .Is .is := fun C D mg mb means r s h t a b a' b' c Q E G hc I ha hb kq => by
  obtain ⟨h1, h2⟩ := avIs_is hc ha hb
  exact wpAny_is_plain h1 (by rw [h2]; exact kq t)
theorem cmp_isnt : CmpOk w .IsNot .isnt := fun C D mg mb means r s h t a b a' b' c Q E G hc I ha hb kq => by
  obtain ⟨b, hb', rfl⟩ := bnot_some hc
  obtain ⟨h1, h2⟩ := avIs_is hb' ha hb
  exact wpAny_isNot_plain h1 (by rw [h2]; exact kq t)
theorem orO_some {a b : Option Bool} {c : Bool} (h : orO a b = some c) : ∃ x y, a = some x ∧ b = some y ∧ c = (x || y) := by
  unfold orO at h
  split at h
  · cases h; exact ⟨false, false, rfl, rfl, rfl⟩
  · rename_i x y hn
    cases h
    refine ⟨x, y, rfl, rfl, ?_⟩
    cases x <;> cases y <;> first | rfl | exact (hn rfl rfl).elim
  · cases h
noncomputable def strIs (x : Str) : Value → Bool
  | .str y _ => y == x
  | _ => false
theorem avInN_is {r : Va} {a : AS} {x : Str} {t : Tok} (hx : ASR r a x) : ∀ {xs : List AV} {vs : List Value} {c : Bool}, avInN a xs = some c → VRs r xs vs → vs.any (strIs x) = c ∧ ∀ (A : Around) (s : Shared), ∀ y ∈ vs, EqAt A s y (.str x t) (strIs x y)
  | [], _, c, h, .nil => by cases h; exact ⟨rfl, fun _ _ _ hy => nomatch hy⟩
  | v :: xs, _, c, h, .cons (v := v') (vs := vs) hv hvs => by
    obtain ⟨b1, b2, e1, e2, rfl⟩ := orO_some (a := asOf a v) (b := avInN a xs) h
    obtain ⟨h1, h2⟩ := avInN_is hx e2 hvs
    unfold asOf at e1
    split at e1
    · obtain ⟨y, u, hy, rfl⟩ := hv
      have e3 := asEq_is e1 hy hx
      refine ⟨by rw [List.any_cons, h1]; show ((y == x) || b2) = _; rw [e3], fun A s z hz => ?_⟩
      rcases List.mem_cons.mp hz with rfl | hz
      · exact EqAt.str_str _ _ _ _
      · exact h2 A s z hz
    · cases e1
theorem avIn_is {r : Va} {s : St} {h : Heap} {a b : AV} {a' b' : Value} {c : Bool} {A : Around} {t : Nat} {Q E : Value → Shared → Prop} (I : Inv w C D r s h) (hc : avIn s.objs a b = some c) (ha : VR r a a') (hb : VR r b b') :
    (Q (.bool c) ⟨h, D.gs, D.d, t, D.os⟩ → wpAny (model PG w) A (compareOp .In a' b') Q E ⟨h, D.gs, D.d, t, D.os⟩) ∧ (Q (.bool !c) ⟨h, D.gs, D.d, t, D.os⟩ → wpAny (model PG w) A (compareOp .NotIn a' b') Q E ⟨h, D.gs, D.d, t, D.os⟩) := by
  unfold avIn at hc
  split at hc
  · obtain ⟨x, u, hx, rfl⟩ := ha
    obtain ⟨y, d', hy, rfl⟩ := hb
    unfold inObj at hc
    split at hc
    · rename_i xs ho
      obtain ⟨vs, hl, hvs⟩ := (ob_at I ho hy).2 xs rfl
      obtain ⟨h1, h2⟩ := avInN_is (t := u) hx hc hvs
      have h1' : vs.toArray.any (strIs x) = c := by simpa using h1
      exact ⟨fun q => in_tupleAt (strIs x) hl (fun y hy => h2 _ _ y (by simpa using hy)) (by rw [h1']; exact q), fun q => notIn_tupleAt (strIs x) hl (fun y hy => h2 _ _ y (by simpa using hy)) (by rw [h1']; exact q)⟩
    · rename_i xs ho
      obtain ⟨vs, hl, hvs⟩ := (ob_at I ho hy).1 xs rfl
      obtain ⟨h1, h2⟩ := avInN_is (t := u) hx hc hvs
      have h1' : vs.toArray.any (strIs x) = c := by simpa using h1
      exact ⟨fun q => in_listAt (strIs x) hl (fun y hy => h2 _ _ y (by simpa using hy)) (by rw [h1']; exact q), fun q => notIn_listAt (strIs x) hl (fun y hy => h2 _ _ y (by simpa using hy)) (by rw [h1']; exact q)⟩
    · cases hc
  · cases hc
theorem cmp_in : CmpOk w .In .isin := fun C D mg mb means r s h t a b a' b' c Q E G hc I ha hb kq => (avIn_is I hc ha hb).1 (kq t)
theorem cmp_notin : CmpOk w .NotIn .notin := fun C D mg mb means r s h t a b a' b' c Q E G hc I ha hb kq => by
  obtain ⟨b, hb', rfl⟩ := bnot_some hc
  exact (avIn_is I hb' ha hb).2 (kq t)
end
section
variable {w : World} {mg mb : Str → Option Value} {means : ExcName → Option Value} {C : Cx} {D : Dy}
theorem sym_inv {r : Va} {s : St} {h : Heap} (x : Sl) (I : Inv w C D r s h) : ∃ r', r.Le r' ∧ r' s.nx = some x ∧ Inv w C D r' ⟨s.loc, s.cv, s.objs, s.nx.succ⟩ h := by
  refine Inv.el I fun g m cells news Gg F N Co => ?_
  have hn := Co.new s.nx (Nat.le_refl _)
  have le := Va.put_le (x := x) hn
  refine ⟨r.put s.nx x, le, Va.put_at, g, m, cells, news, Gg, F, N, Co.nd, Co.led.mono le, fun i hi => ?_, fun i v hv => (Co.slot i v hv).mono le, fun k hk => (Co.cv k hk).mono le, Co.cell, le _ _ Co.scr⟩
  unfold Va.put
  have : s.nx.succ ≤ i := hi
  rw [if_neg (by omega)]
  exact Co.new i (by omega)
theorem mkS_len (l : List Nat) : (mkS l).length = l.length := by unfold mkS Str.length; simp
theorem ifSome_some {α : Type} {b : Bool} {x y : α} (h : ifSome b x = some y) : b = true ∧ x = y := by
  cases b with
  | true => cases h; exact ⟨rfl, rfl⟩
  | false => cases h
theorem ifO_some {b c : Bool} (h : ifO b c = true) : b = true ∧ c = true := by
  cases b with
  | true => exact ⟨rfl, h⟩
  | false => cases h
theorem short_le {l : List Nat} (h : short l = true) : l.length ≤ 1000 := Nat.le_of_ble_eq_true h
theorem intLtB_lt {x y : Int} (h : intLtB x y = true) : x < y := by rw [intLtB_is] at h; exact of_decide_eq_true h
theorem smallI_is : ∀ {l : List Int}, smallI l = true → ∀ x ∈ l, -1000 < x ∧ x < 1000
  | [], _, _, hx => nomatch hx
  | y :: r, h, x, hx => by
    unfold smallI at h
    split at h
    · rename_i e1
      split at h
      · rename_i e2
        rcases List.mem_cons.mp hx with rfl | hx
        · exact ⟨intLtB_lt e2, intLtB_lt e1⟩
        · exact smallI_is h x hx
      · cases h
    · cases h
noncomputable def OpOk (w : World) (op : Operator) (B : AV → AV → St → KV → Bool) : Prop :=
  ∀ (C : Cx) (D : Dy) (mg mb : Str → Option Value) (means : ExcName → Option Value) (r : Va) (s : St) (h : Heap) (t : Nat) (a b : AV) (a' b' : Value) (k : KV) (Q E : Value → Shared → Prop), Good w mg mb means C D → B a b s k = true → Inv w C D r s h → VR r a a' → VR r b b' →
    (∀ r' u s' u' h' t', r.Le r' → k u s' = true → Inv w C D r' s' h' → VR r' u u' → Q u' ⟨h', D.gs, D.d, t', D.os⟩) → wpAny (model PG w) (C.A D) (binaryOp op a' b') Q E ⟨h, D.gs, D.d, t, D.os⟩
theorem snd_op {op : Operator} {B : AV → AV → St → KV → Bool} {x y : Sx} {e f : PySem.Expr} {pos : Pos} (ho : OpOk w op B) (hx : SndX w mg mb means C x e) (hy : SndX w mg mb means C y f) : SndX w mg mb means C (fun s k kr => x s (fun a s => y s (fun b s => B a b s k) kr) kr) (.BinOp e op f pos) := by
  intro D r s h t k kr Q E G hk I kq ke
  refine wpAny_BinOp (hx D r s h t _ kr _ E G hk I (fun r₁ v s₁ v' h₁ t₁ l₁ hk₁ I₁ hv => ?_) ke)
  refine hy D r₁ s₁ h₁ t₁ _ kr _ E G hk₁ I₁ (fun r₂ u s₂ u' h₂ t₂ l₂ hk₂ I₂ hu => ?_) fun r₂ v₂ s₂ v₂' h₂ t₂ l₂ => ke r₂ v₂ s₂ v₂' h₂ t₂ (l₁.trans l₂)
  exact ho C D mg mb means r₂ s₂ h₂ t₂ v u v' u' k Q E G hk₂ I₂ (hv.mono l₂) hu fun r₃ z s₃ z' h₃ t₃ l₃ => kq r₃ z s₃ z' h₃ t₃ ((l₁.trans l₂).trans l₃)
theorem strAdd_is {r : Va} {x y z : AS} {p q : Str} (hz : strAdd x y = some z) (hp : ASR r x p) (hq : ASR r y q) : ASR r z (p ++ q) ∧ p.length + q.length ≤ sizeLine := by
  unfold strAdd at hz
  split at hz
  · obtain ⟨hs, rfl⟩ := ifSome_some hz
    cases hp; cases hq
    have := short_le hs
    rw [List.length_append] at this
    exact ⟨mkS_append _ _, by rw [mkS_len, mkS_len, sizeLine_eq]; omega⟩
  · rename_i a b i
    obtain ⟨hs, rfl⟩ := ifSome_some hz
    cases hp
    obtain ⟨n, hn, hb, rfl⟩ := hq
    have := short_le hs
    rw [List.length_append] at this
    have hd := int_text_length_le10 (a := n) (k := 20) (by decide) (Nat.lt_trans hb (by decide))
    refine ⟨⟨n, hn, hb, ?_⟩, ?_⟩
    · show mkS a ++ (mkS b ++ _) = _
      rw [← mkS_append]
      exact (PySem.Str.append_assoc _ _ _).symm
    · have e1 : (mkS b ++ Str.ofString (toString n)).length = b.length + (Str.ofString (toString n)).length := by
        rw [strLen_append, mkS_len]
      rw [e1, mkS_len, PySem.ofString_length, sizeLine_eq]
      omega
  · cases hz
theorem op_add : OpOk w .Add addOf := by
  intro C D mg mb means r s h t a b a' b' k Q E G hk I ha hb kq
  unfold addOf at hk
  split at hk
  · obtain ⟨p, u, hp, rfl⟩ := ha
    obtain ⟨q, v, hq, rfl⟩ := hb
    obtain ⟨z, hz, hk⟩ := onO_some hk
    obtain ⟨h1, h2⟩ := strAdd_is hz hp hq
    exact PyProof.Rows.add_str (fun t' tk => kq r (.str z) s _ h tk (Va.Le.refl r) hk I ⟨_, t', h1, rfl⟩) h2
  · rename_i x y
    obtain ⟨p, u, hp, rfl⟩ := ha
    obtain ⟨q, v, hq, rfl⟩ := hb
    unfold addI at hk
    split at hk
    · cases hp; cases hq
      exact wpAny_add_int (kq r _ s _ h _ (Va.Le.refl r) hk I ⟨_, _, rfl, rfl⟩)
    · split at hk
      · rename_i hs
        cases hp
        have b1 := smallI_is hs _ (.head _)
        have b2 := smallI_is hs _ (.tail _ hq)
        obtain ⟨r', l', e, I'⟩ := sym_inv (.num (_ + q)) I
        exact wpAny_add_int (kq r' _ _ _ h _ l' hk I' ⟨_, _, ⟨e, Nat.lt_of_lt_of_le (show Int.natAbs _ < 10000 by omega) (by decide)⟩, rfl⟩)
      · cases hk
    · cases hk
  · have I' := I
    obtain ⟨i, o, g, m, cells, pre, l, post, a, d, e1, e2, hk, rfl, e5, Gg, F, N, Co, hor, hup⟩ := obj_at I ha hk
    obtain ⟨j, p, g', m', cells', pre', l', post', a₂, d₂, e1', e2', hk, rfl, e5', Gg', F', N', Co', hor', hup'⟩ := obj_at I' hb hk
    cases e1; cases e1'
    unfold addL at hk
    split at hk
    · rename_i xs ys
      obtain ⟨vs, hl, hvs⟩ := (ob_at I' e2 e5).1 _ rfl
      obtain ⟨us, hl', hus⟩ := (ob_at I' e2' e5').1 _ rfl
      obtain ⟨hf, hka⟩ := alloc_some hk
      have hz := small_le hf
      have h1 := hvs.length
      have h2 := hus.length
      rw [List.length_append] at hz
      refine add_lists (s := ⟨h, D.gs, D.d, t, D.os⟩) F N hl hl' (fun h' F₂ N₂ => ?_) (by rw [sizeLine_eq]; omega)
      obtain ⟨r', le, e, I₂⟩ := alloc1 (o := .list (_ ++ _)) Gg F₂ N₂ (fun p hp => Heap.lt_size (N p hp).1) Co fun r' le e => ⟨_, 0, vs ++ us, 0, e, rfl, (hvs.append hus).mono le, small_le hf⟩
      exact kq r' _ _ _ h' t le hka I₂ ⟨_, 0, e, rfl⟩
    · cases hk
  · cases hk
theorem op_mul : OpOk w .Mult mulOf := by
  intro C D mg mb means r s h t a b a' b' k Q E G hk I ha hb kq
  obtain ⟨i, xs, g, m, cells, pre, post, a, d, vs, n, rfl, e2, hk, rfl, e5, Gg, F, N, Co, hvs, hle, hup⟩ := list_at I ha hk
  obtain ⟨j, rfl, hk2⟩ := onN_some hk
  obtain ⟨_, u, rfl, rfl⟩ := hb
  have hg := (N _ (mem3 (.head _))).1
  unfold mulL at hk2
  split at hk2
  · cases hvs with
    | cons hv hnil =>
      cases hnil
      obtain ⟨hf, hka⟩ := alloc_some hk2
      refine mul_list (s := ⟨h, D.gs, D.d, t, D.os⟩) F N hg (by decide) (by decide) (by show 1 * 1 ≤ 2 ^ 24; decide) (fun h' F₂ N₂ => ?_)
      obtain ⟨r', le, e, I₂⟩ := alloc1 (o := .list _) Gg F₂ N₂ (fun p hp => Heap.lt_size (N p hp).1) Co fun r' le e => ⟨_, 0, [_], 0, e, rfl, (VRs.cons hv .nil).mono le, small_le hf⟩
      exact kq r' _ _ _ h' t le hka I₂ ⟨_, 0, e, rfl⟩
  · cases hvs with
    | cons hv hnil =>
      cases hnil
      obtain ⟨hf, hka⟩ := alloc_some hk2
      refine mul_list (s := ⟨h, D.gs, D.d, t, D.os⟩) F N hg (by decide) (by decide) (by show 1 * 2 ≤ 2 ^ 24; decide) (fun h' F₂ N₂ => ?_)
      obtain ⟨r', le, e, I₂⟩ := alloc1 (o := .list _) Gg F₂ N₂ (fun p hp => Heap.lt_size (N p hp).1) Co fun r' le e => ⟨_, 0, [_, _], 0, e, rfl, (VRs.cons hv (.cons hv .nil)).mono le, small_le hf⟩
      exact kq r' _ _ _ h' t le hka I₂ ⟨_, 0, e, rfl⟩
  · cases hk2
theorem snd_add {x y : Sx} {e f : PySem.Expr} {pos : Pos} (hx : SndX w mg mb means C x e) (hy : SndX w mg mb means C y f) : SndX w mg mb means C (xAdd x y) (.BinOp e .Add f pos) := snd_op op_add hx hy
theorem snd_mul {x y : Sx} {e f : PySem.Expr} {pos : Pos} (hx : SndX w mg mb means C x e) (hy : SndX w mg mb means C y f) : SndX w mg mb means C (xMul x y) (.BinOp e .Mult f pos) := snd_op op_mul hx hy
end
structure VecNot (P : Params) (D : Addr) : Prop where
  k3 : kin_not (hd.heap_1 P) D 314 = true
  k4 : plainGet (hd.heap_1 P) D "__class__" = true
  k5 : hasDictIn (hd.heap_1 P) D = true
  k6 : findIn (hd.heap_1 P) (.ref D) "__class__" = some (some (.builtin "object.__class__"))
  k7 : specialIn (hd.heap_1 P) (.builtin "object.__class__") "__get__" = some (some (.builtin "getset_descriptor.__get__"))
  k8 : takesIn (hd.heap_1 P) (.builtin "object.__class__") = some true
  k9 : mroIn (hd.heap_1 P) D (.type "object") = some true
theorem vn_285 (P : Params) : VecNot P 285 := ⟨by kin_no, by k_is, by k_is, by k_is, by k_is, by k_is, by k_is⟩
theorem vn_335 (P : Params) : VecNot P 335 := ⟨by kin_no, by k_is, by k_is, by k_is, by k_is, by k_is, by k_is⟩
theorem vn_357 (P : Params) : VecNot P 357 := ⟨by kin_no, by k_is, by k_is, by k_is, by k_is, by k_is, by k_is⟩
theorem vn_379 (P : Params) : VecNot P 379 := ⟨by kin_no, by k_is, by k_is, by k_is, by k_is, by k_is, by k_is⟩
theorem vn_401 (P : Params) : VecNot P 401 := ⟨by kin_no, by k_is, by k_is, by k_is, by k_is, by k_is, by k_is⟩
theorem vec_is (P : Params) : isIn (hd.heap_1 P) (.ref 314) 314 = true := by k_is
theorem gb_isinstance' (P : Params) : GB P (Str.ofString "isinstance") (.builtin "isinstance") := gb_isinstance P
section
variable {w : World} {mg mb : Str → Option Value} {means : ExcName → Option Value} {C : Cx} {D : Dy}
theorem isVec_is {d : Nat} {b : Bool} (h : isVec d = some b) : (b = true ∧ d = 314) ∨ (b = false ∧ (d = 285 ∨ d = 335 ∨ d = 357 ∨ d = 379 ∨ d = 401)) := by
  unfold isVec at h
  split at h
  · rename_i e; cases h; exact .inl ⟨rfl, Nat.eq_of_beq_eq_true e⟩
  · split at h
    · cases h
    · rename_i hn
      cases h
      refine .inr ⟨rfl, ?_⟩
      cases e1 : Nat.beq d 285 with
      | true => exact .inl (Nat.eq_of_beq_eq_true e1)
      | false =>
        cases e2 : Nat.beq d 335 with
        | true => exact .inr (.inl (Nat.eq_of_beq_eq_true e2))
        | false =>
          cases e3 : Nat.beq d 357 with
          | true => exact .inr (.inr (.inl (Nat.eq_of_beq_eq_true e3)))
          | false =>
            cases e4 : Nat.beq d 379 with
            | true => exact .inr (.inr (.inr (.inl (Nat.eq_of_beq_eq_true e4))))
            | false =>
              cases e5 : Nat.beq d 401 with
              | true => exact .inr (.inr (.inr (.inr (Nat.eq_of_beq_eq_true e5))))
              | false => exact (hn e1 e2 e3 e4 e5).elim
theorem snd_isI {x : Sx} {e : PySem.Expr} {nm cn : Str} {p q pos : Pos} (gb : GB w.params nm (.builtin "isinstance")) (gf : GF w.params cn 314) (hko : kOf C nm = some .globalImplicit) (hko2 : kOf C cn = some .globalImplicit) (hdb : (nm == ("__debug__" : Str)) = false) (hdb2 : (cn == ("__debug__" : Str)) = false)
    (hx : SndX w mg mb means C x e) (hst : ∀ env, starEach [e, .Name cn q] env = [(false, eval e env), (false, eval (.Name cn q) env)]) (hst2 : ∀ env, starEach [e, .Name cn q] env = (false, eval e env) :: starEach [.Name cn q] env) : SndX w mg mb means C (xIsI x) (.Call (.Name nm p) [e, .Name cn q] [] pos) := by
  intro D r s h t k kr Q E G hk I kq ke
  have I' := I
  refine Inv.el I fun g m cells news Gg F N Co => ?_
  refine Call_ (rd_bi G Gg F gb hko hdb ?_) rfl
  refine PyProof.Rows.callWith_builtin1 (args_cons (hx D r s h t _ kr _ E G hk I' (fun r₁ v s₁ v' h₁ t₁ l₁ hk₁ I₁ hv => ?_) ke) (hst2 _)) (hst2 _) ?_
  · refine inst_el I₁ hv hk₁ fun i c fs g₁ m₁ cells₁ pre post ad d ds n q12 e2 e3 q15 e5 Gg₁ F₁ N₁ Co₁ hdr hlen hok hup => ?_
    subst q12
    subst q15
    refine args_cons (rd_glo G Gg₁ F₁ gf hko2 hdb2 (args_nil ?_)) rfl
    obtain ⟨b, hb, hkb⟩ := onO_some e3
    have X := (Gg₁.top G).1.keeps F₁.keep
    have IA := InstAt.of_news N₁ (mem3 (.head _)) (mem3 (.tail _ (.head _)))
    have no : VecNot w.params c → b = false → wpAny (model PG w) (C.A D) (call (.builtin "isinstance") [.ref ad, .ref 314]) Q E ⟨h₁, D.gs, D.d, t₁, D.os⟩ := fun V e => by
      subst e
      exact kin_callC (s := ⟨h₁, D.gs, D.d, t₁, D.os⟩) X IA V.k3 V.k4 V.k5 V.k6 V.k7 V.k8 V.k9 (kq r₁ _ s₁ _ h₁ _ l₁ hkb I₁ rfl)
    rcases isVec_is hb with ⟨rfl, rfl⟩ | ⟨rfl, rfl | rfl | rfl | rfl | rfl⟩
    · exact isi_call (s := ⟨h₁, D.gs, D.d, t₁, D.os⟩) X (fun M => IA.type (M := M)) (vec_is _) (by intro e; cases e) (kq r₁ _ s₁ _ h₁ _ l₁ hkb I₁ rfl)
    · exact no (vn_285 _) rfl
    · exact no (vn_335 _) rfl
    · exact no (vn_357 _) rfl
    · exact no (vn_379 _) rfl
    · exact no (vn_401 _) rfl
  · rw [show starEach [PySem.Expr.Name cn q] (C.env D) = [(false, eval (.Name cn q) (C.env D))] from rfl]; rfl
theorem snd_isB {x : Sx} {e : PySem.Expr} {nm cn : Str} {p q pos : Pos} (gb : GB w.params nm (.builtin "isinstance")) (gf : GB w.params cn (.type "bool")) (hko : kOf C nm = some .globalImplicit) (hko2 : kOf C cn = some .globalImplicit) (hdb : (nm == ("__debug__" : Str)) = false) (hdb2 : (cn == ("__debug__" : Str)) = false)
    (hx : SndX w mg mb means C x e) (hst2 : ∀ env, starEach [e, .Name cn q] env = (false, eval e env) :: starEach [.Name cn q] env) : SndX w mg mb means C (xIsB x) (.Call (.Name nm p) [e, .Name cn q] [] pos) := by
  intro D r s h t k kr Q E G hk I kq ke
  have I' := I
  refine Inv.el I fun g m cells news Gg F N Co => ?_
  refine Call_ (rd_bi G Gg F gb hko hdb ?_) rfl
  refine PyProof.Rows.callWith_builtin1 (args_cons (hx D r s h t _ kr _ E G hk I' (fun r₁ v s₁ v' h₁ t₁ l₁ hk₁ I₁ hv => ?_) ke) (hst2 _)) (hst2 _) ?_
  · have I₁' := I₁
    refine Inv.el I₁ fun g₁ m₁ cells₁ news₁ Gg₁ F₁ N₁ Co₁ => ?_
    refine args_cons (rd_bi G Gg₁ F₁ gf hko2 hdb2 (args_nil ?_)) rfl
    obtain ⟨b, hb, hkb⟩ := onB_some hk₁
    unfold isBool at hb
    split at hb
    · cases hb; cases hv
      exact PySem.IsiPair.bool_bool (kq r₁ _ s₁ _ h₁ _ l₁ hkb I₁' rfl)
    · cases hb
      obtain ⟨z, u, hz, rfl⟩ := hv
      exact PySem.IsiPair.str_bool (kq r₁ _ s₁ _ h₁ _ l₁ hkb I₁' rfl)
    · cases hb
  · rw [show starEach [PySem.Expr.Name cn q] (C.env D) = [(false, eval (.Name cn q) (C.env D))] from rfl]; rfl
theorem snd_dget {x y : Sx} {e f : PySem.Expr} {p pos : Pos} (hx : SndX w mg mb means C x e) (hy : SndX w mg mb means C y f) (hbase : ∀ env, attributeBase e (Str.ofString "get") env (eval e env) = eval e env) (hst : ∀ env, starEach [f] env = [(false, eval f env)]) (hline : (p.endLine == pos.line) = true) :
    SndX w mg mb means C (xDget x y) (.Call (.Attribute e (Str.ofString "get") p) [f] [] pos) := by
  intro D r s h t k kr Q E G hk I kq ke
  refine Call_method1 (hbase _) (hst _) hline (hx D r s h t _ kr _ E G hk I (fun r₁ v s₁ v' h₁ t₁ l₁ hk₁ I₁ hv => ?_) ke)
  refine dict_el I₁ hv hk₁ fun i es g m cells pre post a d o kvs q11 e2 e3 q14 e5 Gg F N Co hdo hkr hlt hle hup => ?_
  subst q11
  subst q14
  have hD := dict_of (w := w) N (mem3 (.head _)) hdo
  have hex : o.dict = none := by obtain ⟨_, _, hx, _⟩ := hdo; exact hx.2.1
  refine ⟨"dict", "dict.get", PySem.F.plainAttrs_dict, PySem.F.slot_dict_get, PySem.F.type_dict_get, hD.mapOf.typeIs, (fun b hb => by cases hb; exact ⟨o, (N _ (mem3 (.head _))).1, hex⟩), ?_⟩
  refine wpAny_dict_get1 (knd := PySem.strKind PG w) hlt (hy D r₁ s₁ h₁ t₁ _ kr _ E G e3 I₁ (fun r₂ u s₂ u' h₂ t₂ l₂ hk₂ I₂ hu => ?_) fun r₂ v₂ s₂ v₂' h₂ t₂ l₂ => ke r₂ v₂ s₂ v₂' h₂ t₂ (l₁.trans l₂))
  refine dict_el I₂ (hv.mono l₂) hk₂ fun i' es' g' m' cells' pre' post' a' d' o' kvs' hi e2' e3' ha e5' Gg' F' N' Co' hdo' hkr' hlt' hle' hup' => ?_
  cases hi; cases ha
  obtain ⟨q, rfl, hkq⟩ := onS_some e3'
  obtain ⟨_, tq, rfl, rfl⟩ := hu
  have hD' := dict_of (w := w) N' (mem3 (.head _)) hdo'
  refine ⟨mkS q, _, strKind_is PG w _ tq, hD'.mapOf, ?_⟩
  have hg := hkr'.get (k := q)
  cases hz : lookS q es' with
  | some z =>
    rw [hz] at hg hkq
    obtain ⟨z', hg, hz'⟩ := hg
    rw [hg]
    exact kq r₂ z s₂ z' h₂ (t₂ + 1) (l₁.trans l₂) hkq I₂ hz'
  | none =>
    rw [hz] at hg hkq
    rw [hg]
    exact kq r₂ .none s₂ .none h₂ (t₂ + 1) (l₁.trans l₂) hkq I₂ rfl
theorem join_rel {r : Va} : ∀ {xs : List AV} {vs : List Value} {l : List Nat}, joinOf xs = some l → VRs r xs vs → ∃ ys, StrsAre vs ys ∧ (∀ acc : Array Nat, ys.foldl (fun a p => a ++ (mkS []).cps ++ p.cps) acc = acc ++ (mkS l).cps) ∧ (ys.map (·.length)).sum = l.length
  | [], _, l, h, .nil => by
    cases h
    exact ⟨[], .nil, fun acc => by unfold mkS; simp, rfl⟩
  | v :: xs, _, l, h, .cons (v := v') (vs := vs) hv hvs => by
    unfold joinOf at h
    split at h
    · rename_i e; cases e
    · rename_i a q e
      cases e
      split at h
      · rename_i b hb
        cases h
        obtain ⟨_, t, rfl, rfl⟩ := hv
        obtain ⟨ys, h1, h2, h3⟩ := join_rel hb hvs
        refine ⟨mkS a :: ys, .cons _ t h1, fun acc => ?_, ?_⟩
        · rw [List.foldl_cons, h2]
          unfold mkS
          simp
        · rw [List.map_cons, List.sum_cons, h3, mkS_len, List.length_append]
      · cases h
    · cases h
theorem snd_join {x : Sx} {e : PySem.Expr} {n : Nat} {p q pos : Pos} (hx : SndX w mg mb means C x e) (hst : ∀ env, starEach [e] env = [(false, eval e env)]) (hline : (p.endLine == pos.line) = true) :
    SndX w mg mb means C (xJoin x) (.Call (.Attribute (.Constant (.str (Str.ofString "")) n q) (Str.ofString "join") p) [e] [] pos) := by
  intro D r s h t k kr Q E G hk I kq ke
  refine Call_method1 rfl (hst _) hline (Calls.Constant_str ?_)
  refine ⟨"str", "str.join", PySem.F.plainAttrs_str, PySem.F.slot_str_join, PySem.F.type_str_join, typeIs_str _ _ _, (fun b hb => by cases hb), ?_⟩
  refine Calls.callWith_builtin rfl (Calls.evalArgs_plain (Calls.spliced_cons (hx D r s h (t + 1) _ kr _ E G hk I (fun r₁ v s₁ v' h₁ t₁ l₁ hk₁ I₁ hv => Calls.spliced_nil ?_) ke)))
  refine list_el I₁ hv hk₁ fun i xs g m cells pre post a d vs n q11 e2 e3 q14 e5 Gg F N Co hvs hle hup => ?_
  subst q11
  subst q14
  obtain ⟨l, hl, hkl⟩ := onO_some e3
  obtain ⟨hs, hkl⟩ := ifO_some hkl
  obtain ⟨ys, h1, h2, h3⟩ := join_rel hl hvs
  have hL : h₁.IsList a vs.toArray := ⟨_, (N _ (mem3 (.head _))).1, rfl, n, rfl⟩
  have hz := short_le hs
  refine join_list (s := ⟨h₁, D.gs, D.d, t₁, D.os⟩) hL (by simpa using h1) (by rw [h3]; show l.length + ys.length * 0 ≤ 16777216; omega) fun t' tk => ?_
  refine kq r₁ (.str (.lit l)) s₁ _ h₁ tk l₁ hkl I₁ ⟨_, t', ?_, rfl⟩
  show Builtin.Str.glued (Str.ofString "") ys = mkS l
  rw [← mkS_nil]
  unfold Builtin.Str.glued
  cases ys with
  | nil =>
    have hl0 : l = [] := List.eq_nil_of_length_eq_zero h3.symm
    subst hl0; rfl
  | cons y ys =>
    have e := h2 #[]
    rw [List.foldl_cons] at e
    have e1 : (#[] ++ (mkS []).cps ++ y.cps : Array Nat) = y.cps := by unfold mkS; simp
    rw [e1] at e
    show (⟨ys.foldl (fun acc p => acc ++ (mkS []).cps ++ p.cps) y.cps⟩ : Str) = mkS l
    rw [e]
    simp
end
section
variable {w : World} {mg mb : Str → Option Value} {means : ExcName → Option Value} {C : Cx} {D : Dy}
theorem upd_inv {r : Va} {s : St} {h h' g : Heap} {m : Str → Option Value} {cells pre post : List (Addr × Obj)} {a : Addr} {o o' : Obj} {os : List (Nat × Ob)} (Gg : Gr D g) (F : Fr g D.L h m)
    (N : News g D.L h (cells ++ ((pre ++ ([(a, o)] ++ post)) ++ D.ext))) (Co : Core w C D r s m cells (pre ++ ([(a, o)] ++ post))) (hs : Heap.SameBut a h h') (ho : h'.get? a = some o') (hled : LedR w r os (pre ++ ([(a, o')] ++ post))) :
    Inv w C D r (setObjs os s) h' := by
  have hnd := Co.nd
  have e : ∀ o, cells ++ ((pre ++ ([(a, o)] ++ post)) ++ D.ext) = (cells ++ pre) ++ (a, o) :: (post ++ D.ext) := by intro o; simp
  rw [e] at N hnd
  have z := N (a, o) (by simp)
  have hnd' := hnd
  rw [List.map_append, List.map_cons, List.nodup_append] at hnd'
  obtain ⟨n1, n2, n3⟩ := hnd'
  rw [List.nodup_cons] at n2
  refine ⟨g, m, cells, pre ++ ([(a, o')] ++ post), Gg, F.change hs z.2.1 z.2.2, ?_, ⟨?_, hled, Co.new, Co.slot, Co.cv, Co.cell, Co.scr⟩⟩
  · rw [e]
    exact news_set N (fun p hp => n3 p.1 (List.mem_map_of_mem (f := (·.1)) hp) a (.head _)) (fun p hp q => n2.1 (List.mem_map.mpr ⟨p, hp, q⟩)) hs ho
  · rw [e]; exact keys_mid hnd
theorem snds_app {o x : Sx} {eo e : PySem.Expr} {p pos q : Pos} (ho : SndX w mg mb means C o eo) (hx : SndX w mg mb means C x e) (hbase : ∀ env, attributeBase eo (Str.ofString "append") env (eval eo env) = eval eo env) (hst : ∀ env, starEach [e] env = [(false, eval e env)]) (hline : (p.endLine == pos.line) = true)
    (hi : ∀ D, interactive (C.env D) = false) (hs : ∀ D, swapsWith (.Call (.Attribute eo (Str.ofString "append") p) [e] [] pos) none q.line (C.env D) = pure false) :
    SndS w mg mb means C (sApp o x) (.Expr (.Call (.Attribute eo (Str.ofString "append") p) [e] [] pos) q) := by
  intro D r s h t k kret kr Q E G hk I fq ke
  refine wpAny_Expr_any ?_ (hi D) (hs D)
  refine Call_method1 (hbase _) (hst _) hline (ho D r s h t _ kr _ E G hk I (fun r₁ v s₁ v' h₁ t₁ l₁ hk₁ I₁ hv => ?_) ke)
  refine list_el I₁ hv hk₁ fun i xs g m cells pre post a d vs n q11 e2 e3 q14 e5 Gg F N Co hvs hle hup => ?_
  subst q11
  subst q14
  refine ⟨"list", "list.append", PySem.F.plainAttrs_list, PySem.F.slot_list_append, PySem.F.type_list_append, ⟨_, (N _ (mem3 (.head _))).1, rfl⟩, (fun b hb => by cases hb; exact ⟨_, (N _ (mem3 (.head _))).1, rfl⟩), ?_⟩
  refine Calls.callWith_builtin rfl (Calls.evalArgs_plain (Calls.spliced_cons (hx D r₁ s₁ h₁ t₁ _ kr _ E G e3 I₁ (fun r₂ u s₂ u' h₂ t₂ l₂ hk₂ I₂ hu => Calls.spliced_nil ?_) fun r₂ v₂ s₂ v₂' h₂ t₂ l₂ => ke r₂ v₂ s₂ v₂' h₂ t₂ (l₁.trans l₂))))
  obtain ⟨j, hj, hk₂⟩ := onI_some hk₂
  cases hj
  refine list_el I₂ (hv.mono l₂) hk₂ fun i' xs' g' m' cells' pre' post' a' d' vs' n' hi' e2' e3' ha e5' Gg' F' N' Co' hvs' hle' hup' => ?_
  cases hi'; cases ha
  obtain ⟨hsm, e3'⟩ := ifO_some e3'
  have z := N' (a, listOf vs'.toArray n') (mem3 (.head _))
  refine append_at (s := ⟨h₂, D.gs, D.d, t₂, D.os⟩) (hsz := ?_) z.1 fun h' hs' ho' => ?_
  · refine fq.1 r₂ _ h' t₂ (l₁.trans l₂) e3' (upd_inv Gg' F' N' Co' hs' ho' (hup' r₂ _ _ (Va.Le.refl _) ⟨a, d', vs' ++ [u'], n' + 1, e5', by simp, hvs'.append (.cons hu .nil), ?_⟩))
    have := small_le hsm; rw [List.length_append]; show _ + 1 ≤ 40; omega
  · have := hvs'.length; rw [sizeLine_eq]; simp; omega
theorem stored_cons {a k : Str} {v u : Value} {es : List (Str × Value)} (hn : a ∉ es.map (·.1)) : stored ((a, v) :: es) k u = if a = k then (a, u) :: es else (a, v) :: stored es k u := by
  unfold stored
  by_cases h : a = k
  · subst h
    have : es.map (fun kv => if kv.1 = a then (kv.1, u) else kv) = es := by
      conv => rhs; rw [← List.map_id es]
      refine List.map_congr_left fun p hp => ?_
      rw [if_neg (fun e : p.1 = a => hn (List.mem_map.mpr ⟨p, hp, e⟩))]; rfl
    simp [this]
  · simp only [List.any_cons, h, decide_false, Bool.false_or, List.map_cons, if_false, List.cons_append]
    split <;> rfl
theorem KR.put {r : Va} {l kvs} (x : KR r l kvs) {k : List Nat} {u : AV} {u' : Value} (hu : VR r u u') (hn : (kvs.map (·.1)).Nodup) : KR r (putS k u l) (stored kvs (mkS k) u') ∧ (putS k u l).length ≤ l.length + 1 := by
  induction x with
  | nil => exact ⟨.cons hu .nil, Nat.le_refl _⟩
  | @cons k' a v l es hv x ih =>
    rw [List.map_cons, List.nodup_cons] at hn
    rw [stored_cons hn.1]
    unfold putS
    dsimp only
    cases h : strEq k k' with
    | true =>
      have e : mkS k' = mkS k := by rw [strEq_iff.mp h]
      rw [if_pos e]
      exact ⟨.cons hu x, Nat.le_succ _⟩
    | false =>
      have e : ¬ mkS k' = mkS k := fun q => by rw [strEq_iff.mpr (mkS_inj q).symm] at h; cases h
      rw [if_neg e]
      exact ⟨.cons hv (ih hn.2).1, Nat.succ_le_succ (ih hn.2).2⟩
theorem Inv.keep {r : Va} {s : St} {h h' : Heap} (I : Inv w C D r s h) (k : ∀ b o, h.get? b = some o → h'.get? b = some o) : Inv w C D r s h' := by
  refine Inv.el I fun g m cells news Gg F N Co => ?_
  exact ⟨g, m, cells, news, Gg, ⟨F.ns.at' (fun o e => k _ o e), fun b o e => k b o (F.keep b o e), F.above⟩, fun p hp => ⟨k _ _ (N p hp).1, (N p hp).2⟩, Co⟩
theorem smallD_le : ∀ {l : List (List Nat × AV)} {n : Nat}, smallD l n = true → l.length ≤ n
  | [], _, _ => Nat.zero_le _
  | _ :: r, 0, h => by cases h
  | _ :: r, n + 1, h => Nat.succ_le_succ (smallD_le (l := r) h)
theorem snds_asgK {o y x : Sx} {eo ey e : PySem.Expr} {p pos : Pos} (hx : SndX w mg mb means C x e) (ho : SndX w mg mb means C o eo) (hy : SndX w mg mb means C y ey)
    (hs : ∀ D, swapsWith e (some (.Subscript eo ey p)) pos.line (C.env D) = pure false) : SndS w mg mb means C (sAsgK o y x) (.Assign [.Subscript eo ey p] e pos) := by
  intro D r s h t k kret kr Q E G hk I fq ke
  refine wpAny_Assign_Subscript (hx D r s h t _ kr _ E G hk I (fun r₁ v s₁ v' h₁ t₁ l₁ hk₁ I₁ hv => ?_) ke) (hs D)
  refine ho D r₁ s₁ h₁ t₁ _ kr _ E G hk₁ I₁ (fun r₂ u s₂ u' h₂ t₂ l₂ hk₂ I₂ hu => ?_) fun r₂ v₂ s₂ v₂' h₂ t₂ l₂ => ke r₂ v₂ s₂ v₂' h₂ t₂ (l₁.trans l₂)
  refine hy D r₂ s₂ h₂ t₂ _ kr _ E G hk₂ I₂ (fun r₃ z s₃ z' h₃ t₃ l₃ hk₃ I₃ hz => ?_) fun r₂ v₂ s₂ v₂' h₂ t₂ l₃ => ke r₂ v₂ s₂ v₂' h₂ t₂ (l₁.trans (l₂.trans l₃))
  obtain ⟨j, rfl, hk₃⟩ := onI_some hk₃
  refine dict_el I₃ (hu.mono l₃) hk₃ fun i es g m cells pre post a d o' kvs hi e2 e3 q14 e5 Gg F N Co hdo hkr hlt hle hup => ?_
  subst q14
  cases hi
  obtain ⟨q, rfl, e3⟩ := onS_some e3
  obtain ⟨hsm, e3⟩ := ifO_some e3
  obtain ⟨_, tq, rfl, rfl⟩ := hz
  have hD := dict_of (w := w) N (mem3 (.head _)) hdo
  have hv₃ := hv.mono (l₂.trans l₃)
  have hnd : (kvs.map (·.1)).Nodup := by obtain ⟨_, _, _, _, _, _, _, _, hn⟩ := hD; exact hn
  obtain ⟨hput, hpl⟩ := hkr.put (k := q) hv₃ hnd
  refine wpAny_setItem_pairs (knd := PySem.strKind PG w) (s := ⟨h₃, D.gs, D.d, t₃, D.os⟩) (strKind_is PG w _ tq) hD (hsz := ?_) fun h' hD' hs' => ?_
  · obtain ⟨o'', ho'', hd''⟩ := Heap.dictOf_iff.mp hD'
    refine fq.1 r₃ _ h' (t₃ + 1) (l₁.trans (l₂.trans l₃)) e3 (upd_inv Gg F N Co hs' ho'' (hup r₃ _ _ (Va.Le.refl _) ⟨a, d, o'', _, e5, rfl, hd'', hput, hlt, ?_⟩))
    have := smallD_le hsm; omega
  · have := hkr.len; rw [sizeLine_eq]; omega
theorem on2_some {v : AV} {s : St} {f : AV → AV → Bool} (h : on2 v s f = true) : onObj v s (fun o => match o with | .tup [a, b] => f a b | _ => false) = true := h
theorem snds_asg2 {i j : Nat} {x₁ x₂ : Str} {y : Sx} {e : PySem.Expr} {n : Nat} {p₁ p₂ p pos : Pos} (hc : C.cmp = none) (hhd : C.hdl = false) (hx₁ : C.ns[i]? = some x₁) (hx₂ : C.ns[j]? = some x₂) (hy : SndX w mg mb means C y e)
    (hl₁ : C.cs.names.lookup x₁ = some .local ∨ (C.cs.names.lookup x₁ = some .cell ∧ ∀ L, ((cellsFrom (L + 1) C.cs.names []).lookup x₁).isSome = true))
    (hl₂ : C.cs.names.lookup x₂ = some .local ∨ (C.cs.names.lookup x₂ = some .cell ∧ ∀ L, ((cellsFrom (L + 1) C.cs.names []).lookup x₂).isSome = true))
    (hs : ∀ D, swapsWithSole [.Tuple [.Name x₁ p₁, .Name x₂ p₂] n p] e pos.line (fenv C D) = pure false) (hw : ∀ D, swappedStores [.Tuple [.Name x₁ p₁, .Name x₂ p₂] n p] e (fenv C D) = pure none) : SndS w mg mb means C (sAsg2 i j y) (.Assign [.Tuple [.Name x₁ p₁, .Name x₂ p₂] n p] e pos) := by
  intro D r s h t k kret kr Q E G hk I fq ke
  have hy' := hy D r s h t _ kr (fun v s₁ => wpAny (model PG w) (C.A D) (assign (.Tuple [.Name x₁ p₁, .Name x₂ p₂] n p) (fenv C D) v) (fun _ => Q .next) E s₁) E G hk I (fun r₁ v s₁ v' h₁ t₁ l₁ hk₁ I₁ hv => ?_) ke
  · rw [Good.env0 hc] at hy' ⊢
    exact Assign_Tuple hy' (hs D) (hw D)
  · refine obj_el I₁ hv (on2_some hk₁) fun q o g m cells pre l post a d q10 e2 e3 q13 e5 Gg F N Co hor hup => ?_
    subst q10
    subst q13
    split at e3
    · rename_i u z
      obtain ⟨a', d', vs, nn, e6, rfl, hvs, hle⟩ := hor
      rw [e5] at e6; cases e6
      cases hvs with
      | cons hu hvs =>
      cases hvs with
      | cons hz hvs =>
      cases hvs
      rename_i u' z'
      refine assign_Tuple_tuple (s := ⟨h₁, D.gs, D.d, t₁, D.os⟩) (items := #[u', z']) (G.hd hhd) ⟨_, (N _ (mem3 (.head _))).1, rfl, nn, rfl⟩ rfl rfl fun h' he => ?_
      have I₂ := I₁.keep (h' := h') fun b o e => he b o (fun q => by subst q; exact absurd (Heap.lt_size e) (Nat.lt_irrefl _)) e
      refine assignInOrder_cons (wpAny_assign_Name (st_inv G I₂ hx₁ hu hl₁ fun h₂ t₂ I₃ => ?_))
      refine assignInOrder_cons (wpAny_assign_Name (st_inv G I₃ hx₂ hz hl₂ fun h₃ t₃ I₄ => assignInOrder_nil ?_))
      exact fq.1 r₁ _ h₃ t₃ l₁ e3 I₄
    · cases e3
end
section
variable {w : World} {mg mb : Str → Option Value} {means : ExcName → Option Value} {C : Cx} {D : Dy}
theorem onNil_some {v : AV} {s : St} {f : Bool} (h : onNil v s f = true) : onDict v s (fun es => match es with | [] => f | _ => false) = true := h
theorem snd_dict1 {x : Sx} {e : PySem.Expr} {ks : Str} {l : List Nat} {n : Nat} {p pos : Pos} (hl : ks = mkS l) (hx : SndX w mg mb means C x e) : SndX w mg mb means C (xDict1 l x) (.Dict [some (.Constant (.str ks) n p)] [e] pos) := by
  intro D r s h t k kr Q E G hk I kq ke
  obtain ⟨hf, hk⟩ := alloc_some hk
  refine Inv.el I fun g m cells news Gg F N Co => ?_
  refine kdn_eval (knd := PySem.strKind PG w) (s := ⟨h, D.gs, D.d, t, D.os⟩) F N (Gg.top G).2.nolimit rfl rfl (by simp) (by simp) fun d h' o F' N' lt hsys hdo => ?_
  obtain ⟨r', l', e', I'⟩ := alloc1 (o := .dict []) Gg F' N' lt Co fun r' _ e => ⟨d, 0, o, [], e, rfl, hdo, .nil, hsys, Nat.zero_le _⟩
  refine evalPairs_cons (Calls.Constant_str ?_)
  refine wpAny_bind (hx D r' _ h' (t + 1) _ kr _ E G hk I' (fun r₂ v s₂ v' h₂ t₂ l₂ hk₂ I₂ hv => ?_) fun r₂ v₂ s₂ v₂' h₂ t₂ l₂ => ke r₂ v₂ s₂ v₂' h₂ t₂ (l'.trans l₂))
  refine wpAny_bind (wpAny_standAt (wpAny_pure (evalPairs_nil ?_)))
  obtain ⟨i, hi, hk₂⟩ := onI_some hk₂
  cases hi
  refine dict_el I₂ (v := .obj s.nx) (v' := .ref d) ⟨d, 0, l₂ _ _ e', rfl⟩ (onNil_some hk₂) fun i es g m cells pre post a da o' kvs hi e2 e3 ha e5 Gg F N Co hdo' hkr hlt hle hup => ?_
  cases hi; cases ha
  split at e3
  · rename_i es
    cases hkr
    subst hl
    refine ⟨[(mkS l, v')], ⟨strKind_is PG w _ _, rfl, trivial⟩, dict_of (w := w) N (mem3 (.head _)) hdo', fun h₃ hD hs => ?_⟩
    obtain ⟨o'', ho'', hd''⟩ := Heap.dictOf_iff.mp hD
    exact kq r₂ (.obj s.nx) _ (.ref d) h₃ _ (l'.trans l₂) e3 (upd_inv Gg F N Co hs ho'' (hup r₂ _ _ (Va.Le.refl _) ⟨d, da, o'', _, e5, rfl, hd'', .cons hv .nil, hlt, (by show 1 ≤ 40; decide)⟩)) ⟨d, 0, l₂ _ _ e', rfl⟩
  · cases e3

noncomputable abbrev Dy.ex (D : Dy) (p : Addr × Obj) : Dy := { D with ext := p :: D.ext }
theorem Gr.ex {g : Heap} {p : Addr × Obj} (X : Gr D g) : Gr (D.ex p) g := ⟨X.T, X.B, X.K⟩
theorem Gr.ex' {g : Heap} {p : Addr × Obj} (X : Gr (D.ex p) g) : Gr D g := ⟨X.T, X.B, X.K⟩
theorem Good.ex {p : Addr × Obj} (G : Good w mg mb means C D) : Good w mg mb means C (D.ex p) := ⟨G.hk, G.nsd, G.dp, G.un, G.XB, G.TB, G.hd, (by
  have := G.cm
  cases hc : C.cmp with
  | none =>
    cases e : D.cm with
    | none => trivial
    | some k => rw [hc, e] at this; exact this.elim
  | some c =>
    cases e : D.cm with
    | none => rw [hc, e] at this; exact this.elim
    | some k =>
      rw [hc, e] at this
      obtain ⟨a, oC, m₂, b, d⟩ := this
      exact ⟨a, oC, m₂, .tail _ b, d⟩), G.sl⟩
theorem Inv.ext_in {r : Va} {s : St} {h h' : Heap} {p : Addr × Obj} (I : Inv w C D r s h) (k : ∀ b o, h.get? b = some o → h'.get? b = some o) (hp : h'.get? p.1 = some p.2) (hn : h.objs.size ≤ p.1) : Inv w C (D.ex p) r s h' := by
  refine Inv.el I fun g m cells news Gg F N Co => ?_
  have hlt : ∀ q ∈ cells ++ (news ++ D.ext), q.1 ≠ p.1 := fun q hq e => Nat.ne_of_lt (Nat.lt_of_lt_of_le (Heap.lt_size (N q hq).1) hn) e
  have hm : ∀ q, q ∈ cells ++ (news ++ p :: D.ext) ↔ q = p ∨ q ∈ cells ++ (news ++ D.ext) := fun q => by simp only [List.mem_append, List.mem_cons]; constructor <;> rintro (h | h | h | h) <;> simp [h]
  refine ⟨g, m, cells, news, Gg.ex, ⟨F.ns.at' (fun o e => k _ o e), fun b o e => k b o (F.keep b o e), F.above⟩, fun q hq => ?_, ⟨?_, Co.led, Co.new, Co.slot, Co.cv, Co.cell, Co.scr⟩⟩
  · rcases (hm q).mp hq with rfl | hq
    · refine ⟨hp, Nat.ne_of_gt (Nat.lt_of_lt_of_le F.ns.lt hn), ?_⟩
      · cases e : g.get? q.1 with
        | none => rfl
        | some o => exact absurd (Nat.lt_of_lt_of_le (Heap.lt_size (F.keep _ o e)) hn) (Nat.lt_irrefl _)
    · exact ⟨k _ _ (N q hq).1, (N q hq).2⟩
  · have : (p :: (cells ++ (news ++ D.ext))).Perm (cells ++ (news ++ p :: D.ext)) := by
      rw [← List.append_assoc, ← List.append_assoc]; exact List.perm_middle.symm
    refine (this.map (·.1)).nodup_iff.mp ?_
    rw [List.map_cons, List.nodup_cons]
    exact ⟨fun h => by obtain ⟨q, hq, e⟩ := List.mem_map.mp h; exact hlt q hq e, Co.nd⟩
theorem Inv.ext_out {r : Va} {s : St} {h : Heap} {p : Addr × Obj} (I : Inv w C (D.ex p) r s h) : Inv w C D r s h := by
  refine Inv.el I fun g m cells news Gg F N Co => ?_
  have hs : (cells ++ (news ++ D.ext)).Sublist (cells ++ (news ++ p :: D.ext)) := (List.Sublist.refl _).append ((List.Sublist.refl _).append (List.sublist_cons_self _ _))
  exact ⟨g, m, cells, news, Gg.ex', F, fun q hq => N q (hs.subset hq), ⟨(hs.map (·.1)).nodup Co.nd, Co.led, Co.new, Co.slot, Co.cv, Co.cell, Co.scr⟩⟩
theorem Inv.ext_upd {r : Va} {s : St} {h h' : Heap} {p : Addr × Obj} {o' : Obj} (I : Inv w C (D.ex p) r s h) (k : ∀ b o, b ≠ p.1 → h.get? b = some o → h'.get? b = some o) (hp : h'.get? p.1 = some o') : Inv w C (D.ex (p.1, o')) r s h' := by
  refine Inv.el I fun g m cells news Gg F N Co => ?_
  have z := N p (by simp)
  have hnd := Co.nd
  have e : ∀ q : Addr × Obj, cells ++ (news ++ q :: D.ext) = (cells ++ news) ++ q :: D.ext := by intro q; simp
  have hnd' : (((cells ++ news) ++ p :: D.ext).map (·.1)).Nodup := by rw [← e]; exact hnd
  rw [List.map_append, List.map_cons, List.nodup_append] at hnd'
  obtain ⟨n1, n2, n3⟩ := hnd'
  rw [List.nodup_cons] at n2
  refine ⟨g, m, cells, news, Gg.ex'.ex, ⟨F.ns.at' (fun o e => k _ o (Ne.symm z.2.1) e), fun b o e => k b o (fun q => by rw [q, z.2.2] at e; cases e) (F.keep b o e), F.above⟩, fun q hq => ?_, ⟨?_, Co.led, Co.new, Co.slot, Co.cv, Co.cell, Co.scr⟩⟩
  · have hq' : q ∈ (cells ++ news) ++ (p.1, o') :: D.ext := by rw [← e]; exact hq
    rcases List.mem_append.mp hq' with hq' | hq'
    · have y := N q (by show q ∈ cells ++ (news ++ p :: D.ext); rw [e]; exact List.mem_append_left _ hq')
      exact ⟨k _ _ (n3 q.1 (List.mem_map_of_mem (f := (·.1)) hq') p.1 (.head _)) y.1, y.2⟩
    · rcases List.mem_cons.mp hq' with rfl | hq'
      · exact ⟨hp, z.2⟩
      · have y := N q (by show q ∈ cells ++ (news ++ p :: D.ext); rw [e]; exact List.mem_append_right _ (.tail _ hq'))
        exact ⟨k _ _ (fun c => n2.1 (List.mem_map.mpr ⟨q, hq', c⟩)) y.1, y.2⟩
  · show ((cells ++ (news ++ (p.1, o') :: D.ext)).map (·.1)).Nodup
    have : ((cells ++ (news ++ p :: D.ext)).map (·.1)).Nodup := hnd
    simpa only [List.map_append, List.map_cons] using this
theorem Inv.ext_drop {r : Va} {s : St} {h h' : Heap} {p : Addr × Obj} (I : Inv w C (D.ex p) r s h) (k : ∀ b o, b ≠ p.1 → h.get? b = some o → h'.get? b = some o) : Inv w C D r s h' := by
  refine Inv.el I fun g m cells news Gg F N Co => ?_
  have z := N p (by simp)
  have e : cells ++ (news ++ p :: D.ext) = (cells ++ news) ++ p :: D.ext := by simp
  have hnd' : (((cells ++ news) ++ p :: D.ext).map (·.1)).Nodup := by rw [← e]; exact Co.nd
  rw [List.map_append, List.map_cons, List.nodup_append] at hnd'
  obtain ⟨n1, n2, n3⟩ := hnd'
  rw [List.nodup_cons] at n2
  have hs : (cells ++ (news ++ D.ext)).Sublist (cells ++ (news ++ p :: D.ext)) := (List.Sublist.refl _).append ((List.Sublist.refl _).append (List.sublist_cons_self _ _))
  refine ⟨g, m, cells, news, Gg.ex', ⟨F.ns.at' (fun o e => k _ o (Ne.symm z.2.1) e), fun b o e => k b o (fun q => by rw [q, z.2.2] at e; cases e) (F.keep b o e), F.above⟩, fun q hq => ?_, ⟨(hs.map (·.1)).nodup Co.nd, Co.led, Co.new, Co.slot, Co.cv, Co.cell, Co.scr⟩⟩
  have y := N q (hs.subset hq)
  refine ⟨k _ _ ?_ y.1, y.2⟩
  rw [← List.append_assoc] at hq
  rcases List.mem_append.mp hq with hq | hq
  · exact n3 q.1 (List.mem_map_of_mem (f := (·.1)) hq) p.1 (.head _)
  · exact fun c => n2.1 (List.mem_map.mpr ⟨q, hq, c⟩)
theorem Inv.ext_at {r : Va} {s : St} {h : Heap} {p : Addr × Obj} (I : Inv w C (D.ex p) r s h) : h.get? p.1 = some p.2 := by
  refine Inv.el I fun g m cells news Gg F N Co => ?_
  exact (N p (by simp)).1
end
section
variable {w : World} {mg mb : Str → Option Value} {means : ExcName → Option Value} {C : Cx} {D : Dy}
theorem at_none : ∀ {l : List AV} {i : Nat}, at? l i = none → l.length ≤ i
  | [], _, _ => Nat.zero_le _
  | _ :: _, 0, h => by cases h
  | _ :: r, i + 1, h => Nat.succ_le_succ (at_none (l := r) h)
theorem orElse_none {o : Option AV} {b : Bool} {f : AV → Bool} (e : o = none) (h : orElse o b f = true) : b = true := by subst e; exact h
theorem orElse_some {o : Option AV} {b : Bool} {f : AV → Bool} {v : AV} (e : o = some v) (h : orElse o b f = true) : f v = true := by subst e; exact h
theorem snds_forL {i : Nat} {x : Str} {y : Sx} {b : Sb} {e : PySem.Expr} {es : List PySem.Stmt} {p pos : Pos} (hc : C.cmp = none) (hhd : C.hdl = false) (hx : C.ns[i]? = some x) (hy : SndX w mg mb means C y e) (hb : SndB w mg mb means C b es)
    (hl : C.cs.names.lookup x = some .local ∨ (C.cs.names.lookup x = some .cell ∧ ∀ L, ((cellsFrom (L + 1) C.cs.names []).lookup x).isSome = true))
    (hfs : ∀ D v, foldedSetIterable e (C.env D) v = pure v) : SndS w mg mb means C (sForL i y b) (.For (.Name x p) e es [] pos) := by
  intro D r s h t k kret kr Q E G hk I fq ke
  refine wpAny_For (hy D r s h t _ kr _ E G hk I (fun r₁ v s₁ v' h₁ t₁ l₁ hk₁ I₁ hv => ?_) ke) (hfs D)
  obtain ⟨j, xs, g, m, cells, pre, post, a, d, vs, n, rfl, e2, hk₁, rfl, e5, Gg, F, N, Co, hvs, hle, hup⟩ := list_at I₁ hv hk₁
  have hL : h₁.IsList a vs.toArray := ⟨_, (N _ (mem3 (.head _))).1, rfl, n, rfl⟩
  refine wpAny_pyIter_list (s := ⟨h₁, D.gs, D.d, t₁, D.os⟩) hL ?_
  refine codeAny_forLoop_any (fun f s' => ∃ r' sA h' t' jj oI, s' = ⟨h', D.gs, D.d, t', D.os⟩ ∧ r₁.Le r' ∧ Inv w C (D.ex (h₁.objs.size, oI)) r' sA h' ∧ oI.cls = .type "list_iterator" ∧ oI.data = .fields #[.ref a, .int (jj : Nat) 0] ∧ loops i b (.obj j) f jj sA k kret = true) ?_ 41
    ⟨r₁, s₁, _, t₁, 0, _, rfl, Va.Le.refl _, Inv.ext_in (p := (h₁.objs.size, _)) I₁ (fun b o e => Heap.get?_push_of_some _ e) (Heap.get?_push_size _ rfl) (Nat.le_refl _), rfl, rfl, hk₁⟩
  rintro f s' ⟨r', sA, h', t', jj, oI, rfl, l', I', hcl, hda, hkk⟩
  cases f with
  | zero => cases hkk
  | succ f =>
  refine list_el (v := .obj j) (v' := .ref a) I' ⟨a, d, l' _ _ e5, rfl⟩ hkk fun j' xs' g' m' cells' pre' post' a' d' vs' n' hj e2' hk' ha e5' Gg' F' N' Co' hvs' hle' hup' => ?_
  cases hj; cases ha
  have hL' : h'.IsList a vs'.toArray := ⟨_, (N' _ (mem3 (.head _))).1, rfl, n', rfl⟩
  have hit : h'.IsListIter h₁.objs.size a jj := ⟨oI, I'.ext_at, hcl, hda⟩
  cases hat : at? xs' jj with
  | none =>
    have hk' := orElse_none hat hk'
    refine wpAny_pyNext_list_end (s := ⟨h', D.gs, D.d, t', D.os⟩) (G.hd hhd) hit hL' ?_ fun h₂ he => wpAny_execs_nil ?_
    · have := at_none hat; have := hvs'.length; simp; omega
    · exact fq.1 r' sA h₂ t' (l₁.trans l') hk' (I'.ext_drop fun b o hb e => he b o hb e)
  | some v =>
    have hk' := orElse_some hat hk'
    obtain ⟨v₁, hv₁, hvr⟩ := hvs'.at hat
    refine wpAny_pyNext_list_item (s := ⟨h', D.gs, D.d, t', D.os⟩) hit hL' (x := v₁) (by simpa using hv₁) fun h₂ hit₂ hs₂ => ?_
    obtain ⟨o₂, ho₂, hc₂, hd₂⟩ := hit₂
    have I₂ : Inv w C (D.ex (h₁.objs.size, o₂)) r' sA h₂ := I'.ext_upd (fun b o hb e => (hs₂.2 b hb).trans e) ho₂
    refine letGo_listiter (s' := ⟨h₂, D.gs, D.d, t', D.os⟩) ⟨o₂, ho₂, hc₂, hd₂⟩ ?_
    have henv : C.env D = fenv C D := Good.env0 hc
    rw [henv]
    refine wpAny_assign_Name (st_inv (D := D.ex (h₁.objs.size, o₂)) G.ex I₂ hx hvr hl fun h₃ t₃ I₃ => ?_)
    rw [← henv]
    exact hb (D.ex (h₁.objs.size, o₂)) r' (setLoc i v sA) h₃ t₃ _ kret noR _ _ G.ex hk' I₃ ⟨fun r₄ s₄ h₄ t₄ l₄ hk₄ I₄ => ⟨f, Nat.lt_succ_self _, r₄, s₄, h₄, t₄, jj + 1, o₂, rfl, l'.trans l₄, I₄, hc₂, hd₂, hk₄⟩,
      fun r₄ v₄ s₄ v₄' h₄ t₄ l₄ hk₄ I₄ hv₄ => fq.2 r₄ v₄ s₄ v₄' h₄ t₄ (l₁.trans (l'.trans l₄)) hk₄ I₄.ext_out hv₄⟩ (fun _ _ _ _ _ _ _ hf => by cases hf)
end
section
variable {w : World} {mg mb : Str → Option Value} {means : ExcName → Option Value} {C : Cx} {D : Dy}
theorem range_src {x : Sx} {e : PySem.Expr} {nm : Str} {p pos : Pos} {r : Va} {s : St} {h : Heap} {t : Nat} {k : Nat → St → Bool} {kr : KV} {Q E : Value → Shared → Prop} (gb : GB w.params nm (.type "range")) (hko : kOf C nm = some .globalImplicit) (hdb : (nm == ("__debug__" : Str)) = false)
    (hx : SndX w mg mb means C x e) (hst : ∀ env, starEach [e] env = [(false, eval e env)]) (G : Good w mg mb means C D) (hk : x s (fun v s => onN v fun n => ifO (Nat.ble n 40) (k n s)) kr = true) (I : Inv w C D r s h)
    (kq : ∀ r₁ n s₁ h₁ t₁ R t2 t3 t4, r.Le r₁ → n ≤ 40 → k n s₁ = true → Inv w C D r₁ s₁ h₁ → IsRange h₁ R 0 (n : Nat) 1 t2 t3 t4 → Q (.ref R) ⟨h₁, D.gs, D.d, t₁, D.os⟩)
    (ke : ∀ r' v s' v' h' t', r.Le r' → kr v s' = true → Fly w C D r' v s' v' h' → E v' ⟨h', D.gs, D.d, t', D.os⟩) :
    wpAny (model PG w) (C.A D) (eval (.Call (.Name nm p) [e] [] pos) (C.env D)) Q E ⟨h, D.gs, D.d, t, D.os⟩ := by
  have I' := I
  refine Inv.el I fun g m cells news Gg F N Co => ?_
  refine Call_ (rd_bi G Gg F gb hko hdb ?_) rfl
  refine PyProof.Rows.callWith_type1 (args_cons (hx D r s h t _ kr _ E G hk I' (fun r₁ v s₁ v' h₁ t₁ l₁ hk₁ I₁ hv => args_nil ?_) ke) (hst _)) (hst _) rfl
  obtain ⟨n, rfl, hk₁⟩ := onN_some hk₁
  obtain ⟨hle, hk₁⟩ := ifO_some hk₁
  obtain ⟨_, tn, rfl, rfl⟩ := hv
  refine call_range_1 (s := ⟨h₁, D.gs, D.d, t₁, D.os⟩) ?_
  exact kq r₁ n s₁ _ _ _ _ _ _ l₁ (Nat.le_of_ble_eq_true hle) hk₁ (I₁.keep fun b o e => Heap.get?_push_of_some _ e) (IsRange.new _ _ _ _ _ _ _)
theorem range_small {n : Nat} (h : n ≤ 40) : Builtin.Range.small 0 (n : Nat) 1 = true := small_one (by omega) (by omega) (by omega) (by omega)
theorem range_size (n : Nat) : Builtin.Range.rangeSize 0 (n : Nat) 1 = (n : Int) := by rw [rangeSize_nat]; omega
theorem letGo_rangeiter {A : Around} {E : Value → Shared → Prop} {target : PySem.Expr} {I : Addr} {a b c : Int} {v : Value} {Q' : Unit → Shared → Prop} {s' : Shared} (hit : IsRangeIter s'.heap I a b c) (h : Q' () s') :
    wpAny (model PG w) A (letOwnedTupleGo target (.ref I) v) Q' E s' := by
  unfold letOwnedTupleGo
  cases target <;> first
    | exact wpAny_pure h
    | (cases v <;> first
        | exact wpAny_pure h
        | (refine wpAny_bind (wpAny_load hit ?_)
           exact wpAny_pure h))
theorem snds_forR {i : Nat} {x nm : Str} {y : Sx} {b : Sb} {e : PySem.Expr} {es : List PySem.Stmt} {p q pp pos : Pos} (hc : C.cmp = none) (hhd : C.hdl = false) (gb : GB w.params nm (.type "range")) (hko : kOf C nm = some .globalImplicit) (hdb : (nm == ("__debug__" : Str)) = false)
    (hst : ∀ env, starEach [e] env = [(false, eval e env)]) (hx : C.ns[i]? = some x) (hy : SndX w mg mb means C y e) (hb : SndB w mg mb means C b es)
    (hl : C.cs.names.lookup x = some .local ∨ (C.cs.names.lookup x = some .cell ∧ ∀ L, ((cellsFrom (L + 1) C.cs.names []).lookup x).isSome = true))
    (hfs : ∀ D v, foldedSetIterable (.Call (.Name nm q) [e] [] pp) (C.env D) v = pure v) : SndS w mg mb means C (sForR i y b) (.For (.Name x p) (.Call (.Name nm q) [e] [] pp) es [] pos) := by
  intro D r s h t k kret kr Q E G hk I fq ke
  refine wpAny_For (range_src (k := fun n s => loopsR i b n 0 s k kret) gb hko hdb hy hst G hk I (fun r₁ n s₁ h₁ t₁ R t2 t3 t4 l₁ hle hk₁ I₁ hR => ?_) ke) (hfs D)
  refine wpAny_pyIter_range (s := ⟨h₁, D.gs, D.d, t₁, D.os⟩) hR (range_small hle) ?_
  rw [range_size]
  refine codeAny_forLoop_any (fun f s' => ∃ r' sA h' t' jj f' oI, f = f' + 1 ∧ s' = ⟨h', D.gs, D.d, t', D.os⟩ ∧ r₁.Le r' ∧ Inv w C (D.ex (h₁.objs.size, oI)) r' sA h' ∧ oI = ⟨.type "range_iterator", none, .fields #[rawInt (jj : Nat), rawInt (f' : Nat), rawInt 1], #[]⟩ ∧ loopsR i b f' jj sA k kret = true) ?_ (n + 1)
    ⟨r₁, s₁, _, t₁, 0, n, _, rfl, rfl, Va.Le.refl _, Inv.ext_in (p := (h₁.objs.size, _)) I₁ (fun b o e => Heap.get?_push_of_some _ e) (Heap.get?_push_size _ rfl) (Nat.le_refl _), rfl, hk₁⟩
  rintro _ s' ⟨r', sA, h', t', jj, f, oI, rfl, rfl, l', I', rfl, hkk⟩
  have hit : IsRangeIter h' h₁.objs.size (jj : Nat) (f : Nat) 1 := I'.ext_at
  cases f with
  | zero =>
    refine wpAny_pyNext_range_end (s := ⟨h', D.gs, D.d, t', D.os⟩) (G.hd hhd) hit (by omega) fun h₂ he => wpAny_execs_nil ?_
    exact fq.1 r' sA h₂ t' (l₁.trans l') hkk (I'.ext_drop fun b o hb e => he b o hb e)
  | succ f =>
    refine wpAny_pyNext_range_item (s := ⟨h', D.gs, D.d, t', D.os⟩) hit (by omega) fun h₂ hit₂ hs₂ => ?_
    have e1 : ((jj : Nat) : Int) + 1 = ((jj + 1 : Nat) : Int) := by omega
    have e2 : ((f + 1 : Nat) : Int) - 1 = (f : Nat) := by omega
    rw [e1, e2] at hit₂
    have I₂ : Inv w C (D.ex (h₁.objs.size, _)) r' sA h₂ := I'.ext_upd (fun b o hb e => (hs₂.2 b hb).trans e) hit₂
    refine letGo_rangeiter (s' := ⟨h₂, D.gs, D.d, t' + 1, D.os⟩) hit₂ ?_
    have henv : C.env D = fenv C D := Good.env0 hc
    rw [henv]
    refine wpAny_assign_Name (st_inv (D := D.ex (h₁.objs.size, _)) (v := .int (.lit (Int.ofNat jj))) G.ex I₂ hx ⟨_, _, rfl, rfl⟩ hl fun h₃ t₃ I₃ => ?_)
    rw [← henv]
    exact hb (D.ex (h₁.objs.size, _)) r' (setLoc i _ sA) h₃ t₃ _ kret noR _ _ G.ex hkk I₃ ⟨fun r₄ s₄ h₄ t₄ l₄ hk₄ I₄ => ⟨f + 1, Nat.lt_succ_self _, r₄, s₄, h₄, t₄, jj + 1, f, _, rfl, rfl, l'.trans l₄, I₄, rfl, hk₄⟩,
      fun r₄ v₄ s₄ v₄' h₄ t₄ l₄ hk₄ I₄ hv₄ => fq.2 r₄ v₄ s₄ v₄' h₄ t₄ (l₁.trans (l'.trans l₄)) hk₄ I₄.ext_out hv₄⟩ (fun _ _ _ _ _ _ _ hf => by cases hf)
theorem cmp_gt : CmpOk w .Gt .gt := fun C D mg mb means r s h t a b a' b' c Q E G hc I ha hb kq => by
  have hc' : avLt b a = some c := hc
  unfold avLt at hc'
  split at hc'
  · obtain ⟨x, t, hx, rfl⟩ := ha
    obtain ⟨y, u, hy, rfl⟩ := hb
    exact PyProof.Rows.gt_int (by rw [aiLt_is hc' hy hx]; exact kq _)
  · cases hc'
end
section
variable {w : World} {mg mb : Str → Option Value} {means : ExcName → Option Value} {C : Cx} {D : Dy}
theorem Inv.perm {r : Va} {s : St} {h : Heap} {l l' : List (Addr × Obj)} (hp : l.Perm l') (I : Inv w C { D with ext := l } r s h) : Inv w C { D with ext := l' } r s h := by
  refine Inv.el I fun g m cells news Gg F N Co => ?_
  have hq : (cells ++ (news ++ l)).Perm (cells ++ (news ++ l')) := List.Perm.append_left _ (List.Perm.append_left _ hp)
  exact ⟨g, m, cells, news, ⟨Gg.T, Gg.B, Gg.K⟩, F, fun p h => N p (hq.mem_iff.mpr h), ⟨(hq.map (·.1)).nodup_iff.mp Co.nd, Co.led, Co.new, Co.slot, Co.cv, Co.cell, Co.scr⟩⟩
theorem Inv.ext_obj {r : Va} {s : St} {h : Heap} {a : Addr} {ob : Obj} {o : Ob} (I : Inv w C (D.ex (a, ob)) r s h) (ho : ∀ r', r.Le r' → r' s.nx = some (.ad a 0) → OR w r' s.nx o [(a, ob)]) :
    ∃ r', r.Le r' ∧ r' s.nx = some (.ad a 0) ∧ Inv w C D r' (put o s) h := by
  refine Inv.el I fun g m cells news Gg F N Co => ?_
  have hq : ([(a, ob)] ++ (cells ++ (news ++ D.ext))).Perm (cells ++ (news ++ (a, ob) :: D.ext)) := by
    show ((a, ob) :: (cells ++ (news ++ D.ext))).Perm _
    rw [← List.append_assoc, ← List.append_assoc]; exact List.perm_middle.symm
  have hnd := (hq.map (·.1)).nodup_iff.mpr Co.nd
  have hs : (cells ++ (news ++ D.ext)).Sublist (cells ++ (news ++ (a, ob) :: D.ext)) := (List.Sublist.refl _).append ((List.Sublist.refl _).append (List.sublist_cons_self _ _))
  exact alloc_inv (l₁ := [(a, ob)]) Gg.ex' F (fun p h => N p (hq.mem_iff.mp h)) hnd ⟨(hs.map (·.1)).nodup Co.nd, Co.led, Co.new, Co.slot, Co.cv, Co.cell, Co.scr⟩ ho
noncomputable abbrev Cx.in (C : Cx) (c : CmpS) : Cx := { C with cmp := some c }
theorem Inv.cm_in {c : CmpS} {r : Va} {s : St} {h : Heap} {k : CM} {v : AV} (I : Inv w C D r s h) (hv : VR r v k.v) : Inv w (C.in c) { D with cm := some k } r (setCv v s) h := by
  refine Inv.el I fun g m cells news Gg F N Co => ?_
  exact ⟨g, m, cells, news, ⟨Gg.T, Gg.B, Gg.K⟩, F, N, ⟨Co.nd, Co.led, Co.new, Co.slot, fun k' h => by cases h; exact hv, Co.cell, Co.scr⟩⟩
theorem Inv.cm_out {c : CmpS} {r : Va} {s : St} {h : Heap} {k : CM} (hD : D.cm = none) (I : Inv w (C.in c) { D with cm := some k } r s h) : Inv w C D r s h := by
  refine Inv.el I fun g m cells news Gg F N Co => ?_
  exact ⟨g, m, cells, news, ⟨Gg.T, Gg.B, Gg.K⟩, F, N, ⟨Co.nd, Co.led, Co.new, Co.slot, fun k' h => (by rw [hD] at h; cases h), Co.cell, Co.scr⟩⟩
theorem Good.cm0 (hc : C.cmp = none) (G : Good w mg mb means C D) : D.cm = none := by
  have := G.cm
  rw [hc] at this
  cases e : D.cm with
  | none => rfl
  | some k => rw [e] at this; exact this.elim
theorem Good.cm_in {c : CmpS} {k : CM} {oC : Obj} {m₂ : Str → Option Value} (G : Good w mg mb means C D) (hk : c.sc.kind = .function) (he : (k.C, oC) ∈ D.ext) (ho : LCg.NsObj oC m₂) (hm : m₂ c.x = some k.v) : Good w mg mb means (C.in c) { D with cm := some k } :=
  ⟨G.hk, G.nsd, G.dp, G.un, G.XB, G.TB, G.hd, ⟨hk, oC, m₂, he, ho, hm⟩, G.sl⟩
noncomputable abbrev Dy.e3 (D : Dy) (I : Addr) (oI : Obj) (Da : Addr) (oa : Obj) (Cb : Addr) (oC : Obj) : Dy := { D with ext := (I, oI) :: (Da, oa) :: (Cb, oC) :: D.ext }
theorem Inv.mem_ext {r : Va} {s : St} {h : Heap} (I : Inv w C D r s h) {p : Addr × Obj} (hp : p ∈ D.ext) : h.get? p.1 = some p.2 := by
  refine Inv.el I fun g m cells news Gg F N Co => ?_
  exact (N p (List.mem_append_right _ (List.mem_append_right _ hp))).1
noncomputable def NextOk (w : World) (C : Cx) (A : Around) (I : Addr) (gs : Array GenState) (dr : Drawn) (os : OsState) (x : Sx) (k kr : KV) (r₀ : Va) (st : Nat → Obj → St → List AV → Prop) : Prop :=
  ∀ (D₁ : Dy) n oI (r : Va) s h t acc (Q : Option Value → Shared → Prop) (E : Value → Shared → Prop), st n oI s acc → r₀.Le r → Inv w C (D₁.ex (I, oI)) r s h →
    (∀ h₂ t₂, Inv w C D₁ r s h₂ → alloc (.list acc.reverse) s k = true → Q none ⟨h₂, gs, dr, t₂, os⟩) →
    (∀ v v' o₂ h₂ t₂ (K : KV), VR r v v' → Inv w C (D₁.ex (I, o₂)) r s h₂ → x (setCv v s) K kr = true → (∀ y s', K y s' = true → ∃ m, m < n ∧ st m o₂ s' (y :: acc)) → Q (some v') ⟨h₂, gs, dr, t₂, os⟩) →
    wpAny (model PG w) A (pyNext (.ref I)) Q E ⟨h, gs, dr, t, os⟩
theorem comp_run {x : Sx} {elt iter : PySem.Expr} {c : CmpS} {px pos : Pos} {I : Addr} {oI : Obj} {n : Nat} {r : Va} {s : St} {h : Heap} {t : Nat} {k kr : KV} {st : Nat → Obj → St → List AV → Prop} {RR : Value → Addr → Result → Shared → Prop} {E : Value → Shared → Prop}
    (hc : C.cmp = none) (hx : SndX w mg mb means (C.in c) x elt) (G : Good w mg mb means C D) (hsc : c.sc.kind = .function) (hcell : ∀ y ∈ c.sc.names, y.2 ≠ .cell) (hlx : c.sc.names.lookup c.x = some .local)
    (I₀ : Inv w C (D.ex (I, oI)) r s h) (hst : st n oI s []) (hn : n ≤ 100) (hnext : NextOk w C (C.A D) I D.gs D.d D.os x k kr r st) (hself : ∀ h₁ t₁ (Q : Value → Shared → Prop) E, h₁.get? I = some oI → Q (.ref I) ⟨h₁, D.gs, D.d, t₁, D.os⟩ → wpAny (model PG w) (C.A D) (pyIter (.ref I)) Q E ⟨h₁, D.gs, D.d, t₁, D.os⟩)
    (hend : ∀ r' s₂ h₂ t₂ v a Cb oC m₂, r.Le r' → k v s₂ = true → Inv w C (D.ex (Cb, oC)) r' s₂ h₂ → LCg.NsObj oC m₂ → VR r' v (.ref a) → RR (.ref a) Cb (.ok .next) ⟨h₂, D.gs, D.d, t₂, D.os⟩)
    (herr : ∀ r' mv s₂ v' h₂ t₂ oI' Da oa Cb oC v₀, r.Le r' → kr mv s₂ = true → (∃ m₂, LCg.NsObj oC m₂) → Fly w (C.in c) { D.e3 I oI' Da oa Cb oC with cm := some ⟨Cb, v₀⟩ } r' mv s₂ v' h₂ → notedBy (model PG w) (C.A D) (compEnvC c.sc (c.clo D.L) Cb (fenv C D)) (fun e s' => RR (.ref Da) Cb (.error e) s') v' ⟨h₂, D.gs, D.d, t₂, D.os⟩) :
    wpAny (model PG w) (C.A D) (newList []) (fun acc s₃ => wpAny (model PG w) (C.A D) (newFunctionEnv c.sc (fenv C D).globals (c.clo D.L) [] (fenv C D).qual none .none (some (fenv C D))) (fun cenv s₄ =>
      codeAny (model PG w) (C.A D) (.compStart (.ListComp elt [⟨.Name c.x px, iter, [], 0⟩] c.sc pos) 0 (.ref I) acc { cenv with scope := relabel c.sc (fenv C D) }) (RR acc cenv.locals) s₄) E s₃) E ⟨h, D.gs, D.d, t, D.os⟩ := by
  refine wpAny_newObj_type (wpAny_newFunctionEnv hcell (by intro y hy; simp at hy) (fun h₁ hns₁ hsb₁ => ?_) hsc)
  dsimp only at hns₁ hsb₁ ⊢
  have I₁ : Inv w C ((D.ex (I, oI)).ex (h.objs.size, listOf #[] 0)) r s (h.push (listOf #[] 0)) := I₀.ext_in (p := (h.objs.size, listOf #[] 0)) (fun b o e => Heap.get?_push_of_some _ e) (Heap.get?_push_size _ rfl) (Nat.le_refl _)
  have hD := G.cm0 hc
  obtain ⟨oC, heC, hoC⟩ := LCg.ns_obj hns₁
  have I₂ : Inv w C (((D.ex (I, oI)).ex (h.objs.size, listOf #[] 0)).ex ((h.push (listOf #[] 0)).objs.size, oC)) r s h₁ := I₁.ext_in (p := ((h.push (listOf #[] 0)).objs.size, oC)) (fun b o e => hsb₁.extBut b o (Nat.ne_of_lt (Heap.lt_size e)) (Heap.get?_push_of_some _ e)) heC (Nat.le_refl _)
  have I₃ : Inv w C (D.e3 I oI h.objs.size (listOf #[] 0) (h.push (listOf #[] 0)).objs.size oC) r s h₁ := Inv.perm (D := D) (l := ((h.push (listOf #[] 0)).objs.size, oC) :: (h.objs.size, listOf #[] 0) :: (I, oI) :: D.ext) (by
    refine (List.Perm.swap _ _ _).trans (.trans (.cons _ (List.Perm.swap _ _ _)) ?_)
    exact (List.Perm.swap _ _ _).trans (.refl _)) I₂
  generalize (h.push (listOf #[] 0)).objs.size = Cb at *
  generalize h.objs.size = Da at *
  have loop : ∀ t₁, codeAny (model PG w) (C.A D) (.compLoop (.ListComp elt [⟨.Name c.x px, iter, [], 0⟩] c.sc pos) 0 (.ref I) (.ref Da) (compEnvC c.sc (c.clo D.L) Cb (fenv C D))) (RR (.ref Da) Cb) ⟨h₁, D.gs, D.d, t₁, D.os⟩ := by
    intro t₁
    refine codeAny_compLoop_tests (fun n s' => ∃ r' sA h' t' acc ys na oI' oC' m', s' = ⟨h', D.gs, D.d, t', D.os⟩ ∧ r.Le r' ∧ Inv w C (D.e3 I oI' Da (listOf ys.toArray na) Cb oC') r' sA h' ∧ LCg.NsObj oC' m' ∧ VRs r' acc.reverse ys ∧ ys.length + n ≤ 100 ∧ st n oI' sA acc) ?_ n
      ⟨r, s, h₁, t₁, [], [], 0, oI, oC, _, rfl, Va.Le.refl _, I₃, hoC, .nil, by simpa using hn, hst⟩
    rintro n s' ⟨r', sA, h', t', acc, ys, na, oI', oC', m', rfl, l', I', hoC', hvs, hsz, hst'⟩
    refine hnext { D with ext := (Da, listOf ys.toArray na) :: (Cb, oC') :: D.ext } n oI' r' sA h' t' acc _ _ hst' l' I' (fun h₂ t₂ I₅ hal => ?_) fun v v' o₂ h₂ t₂ K hv I₅ hK hKs => ?_
    · obtain ⟨hf, hk⟩ := alloc_some hal
      obtain ⟨r₂, l₂, e₂, I₆⟩ := Inv.ext_obj (D := D.ex (Cb, oC')) (o := .list acc.reverse) I₅ fun r' l e => ⟨Da, 0, ys, na, e, rfl, hvs.mono l, small_le hf⟩
      exact hend r₂ _ h₂ t₂ _ Da Cb oC' m' (l'.trans l₂) hk I₆ hoC' ⟨Da, 0, e₂, rfl⟩
    · have hC₂ := I₅.mem_ext (p := (Cb, oC')) (by simp)
      refine wpAny_assign_Name (wpAny_storeName_local (lookup_relabel_local hlx) (hoC'.ns hC₂) (fun h₃ hn₃ hs₃ => ?_) (by simp [compEnvC, relabel, hsc]))
      refine wpAny_tests_nil ?_
      rw [if_pos rfl]
      obtain ⟨oC₃, heC₃, hoC₃⟩ := LCg.ns_obj hn₃
      have I₆ : Inv w C (D.e3 I o₂ Da (listOf ys.toArray na) Cb oC₃) r' sA h₃ := by
        have a : Inv w C (({ D with ext := (I, o₂) :: (Da, listOf ys.toArray na) :: D.ext } : Dy).ex (Cb, oC')) r' sA h₂ := Inv.perm (D := D) ((List.Perm.cons _ (List.Perm.swap _ _ _)).trans (List.Perm.swap _ _ _)) I₅
        have b := a.ext_upd (fun b o hb e => (hs₃.2 b hb).trans e) heC₃
        exact Inv.perm (D := D) ((List.Perm.swap _ _ _).trans (.cons _ (List.Perm.swap _ _ _))) b
      have Gc : Good w mg mb means (C.in c) { D.e3 I o₂ Da (listOf ys.toArray na) Cb oC₃ with cm := some ⟨Cb, v'⟩ } := Good.cm_in (D := D.e3 I o₂ Da (listOf ys.toArray na) Cb oC₃) (G.ex (p := (Cb, oC₃)) |>.ex (p := (Da, listOf ys.toArray na)) |>.ex (p := (I, o₂))) hsc (by simp) hoC₃ (by simp)
      have I₇ := Inv.cm_in (c := c) (k := ⟨Cb, v'⟩) (v := v) I₆ hv
      refine hx { D.e3 I o₂ Da (listOf ys.toArray na) Cb oC₃ with cm := some ⟨Cb, v'⟩ } r' (setCv v sA) h₃ _ K kr _ _ Gc hK I₇ (fun r₄ y s₄ y' h₄ t₄ l₄ hk₄ I₈ hy => ?_) fun r₄ mv s₄ v₄ h₄ t₄ l₄ hk₄ f => herr r₄ mv s₄ v₄ h₄ t₄ _ _ _ _ _ _ (l'.trans l₄) hk₄ ⟨_, hoC₃⟩ f
      obtain ⟨m, hm, hst₄⟩ := hKs y s₄ hk₄
      have I₉ : Inv w C (D.e3 I o₂ Da (listOf ys.toArray na) Cb oC₃) r₄ s₄ h₄ := Inv.cm_out (D := D.e3 I o₂ Da (listOf ys.toArray na) Cb oC₃) hD I₈
      have zD := I₉.mem_ext (p := (Da, listOf ys.toArray na)) (by simp)
      refine append_at (hsz := ?_) zD fun h₅ hs₅ hD₅ => ?_
      · refine ⟨m, hm, r₄, s₄, h₅, t₄, y :: acc, ys ++ [y'], na + 1, o₂, oC₃, _, rfl, l'.trans l₄, ?_, hoC₃, ?_, ?_, hst₄⟩
        · have a : Inv w C (({ D with ext := (I, o₂) :: (Cb, oC₃) :: D.ext } : Dy).ex (Da, listOf ys.toArray na)) r₄ s₄ h₄ := Inv.perm (D := D) (List.Perm.swap _ _ _) I₉
          have b := a.ext_upd (fun b o hb e => (hs₅.2 b hb).trans e) hD₅
          have e : ({ cls := .type "list", data := .seq (ys.toArray.push y') (na + 1) } : Obj) = listOf (ys ++ [y']).toArray (na + 1) := by simp
          rw [e] at b
          exact Inv.perm (D := D) (List.Perm.swap _ _ _) b
        · rw [List.reverse_cons]; exact (hvs.mono l₄).append (.cons hy .nil)
        · rw [List.length_append, List.length_singleton]; omega
      · rw [sizeLine_eq]; simp; omega
  exact codeAny_compStart_list (loop _) (hself _ _ _ _ (I₃.mem_ext (p := (I, oI)) (by simp)) (loop _))
end
section
variable {w : World} {mg mb : Str → Option Value} {means : ExcName → Option Value} {C : Cx} {D : Dy}
noncomputable def StL (x : Sx) (j : Nat) (a : Addr) (k kr : KV) (n : Nat) (oI : Obj) (s : St) (acc : List AV) : Prop := ∃ jj : Nat, oI.cls = .type "list_iterator" ∧ oI.data = .fields #[.ref a, .int jj 0] ∧ comps x (.obj j) n jj acc s k kr = true
noncomputable def StR (x : Sx) (k : KV) (n : Nat) (oI : Obj) (s : St) (acc : List AV) : Prop := ∃ jj f : Nat, n = f + 1 ∧ oI = ⟨.type "range_iterator", none, .fields #[rawInt (jj : Nat), rawInt (f : Nat), rawInt 1], #[]⟩ ∧ compsR x f jj acc s k = true
theorem next_list {A : Around} {I a d : Addr} {gs : Array GenState} {dr : Drawn} {os : OsState} {x : Sx} {k kr : KV} {r₀ : Va} {j : Nat} (hh : A.handled = none) (hr : r₀ j = some (.ad a d)) : NextOk w C A I gs dr os x k kr r₀ (StL x j a k kr) := by
  rintro D₁ n oI r s h t acc Q E ⟨jj, hcl, hda, hkk⟩ l I' hE hI
  cases n with
  | zero => cases hkk
  | succ f =>
  refine list_el (D := D₁.ex (I, oI)) (v := .obj j) (v' := .ref a) I' ⟨a, d, l _ _ hr, rfl⟩ hkk fun j' xs' g' m' cells' pre' post' a' d' vs' n' hj e2' hk' ha e5' Gg' F' N' Co' hvs' hle' hup' => ?_
  cases hj; cases ha
  have hL' : h.IsList a vs'.toArray := ⟨_, (N' _ (mem3 (.head _))).1, rfl, n', rfl⟩
  have hit : h.IsListIter I a jj := ⟨oI, I'.ext_at, hcl, hda⟩
  cases hat : at? xs' jj with
  | none =>
    refine wpAny_pyNext_list_end (s := ⟨h, gs, dr, t, os⟩) hh hit hL' ?_ fun h₂ he => ?_
    · have := at_none hat; have := hvs'.length; simp; omega
    · exact hE h₂ t (I'.ext_drop fun b o hb e => he b o hb e) (orElse_none hat hk')
  | some v =>
    obtain ⟨v₁, hv₁, hvr⟩ := hvs'.at hat
    refine wpAny_pyNext_list_item (s := ⟨h, gs, dr, t, os⟩) hit hL' (x := v₁) (by simpa using hv₁) fun h₂ hit₂ hs₂ => ?_
    obtain ⟨o₂, ho₂, hc₂, hd₂⟩ := hit₂
    exact hI v v₁ o₂ h₂ t _ hvr (I'.ext_upd (fun b o hb e => (hs₂.2 b hb).trans e) ho₂) (orElse_some hat hk') fun y s' hy => ⟨f, Nat.lt_succ_self _, jj + 1, hc₂, hd₂, hy⟩
theorem next_range {A : Around} {I : Addr} {gs : Array GenState} {dr : Drawn} {os : OsState} {x : Sx} {k : KV} {r₀ : Va} (hh : A.handled = none) : NextOk w C A I gs dr os x k noR r₀ (StR x k) := by
  rintro D₁ n oI r s h t acc Q E ⟨jj, f, rfl, rfl, hkk⟩ l I' hE hI
  have hit : IsRangeIter h I (jj : Nat) (f : Nat) 1 := I'.ext_at
  cases f with
  | zero => exact wpAny_pyNext_range_end (s := ⟨h, gs, dr, t, os⟩) hh hit (by omega) fun h₂ he => hE h₂ t (I'.ext_drop fun b o hb e => he b o hb e) hkk
  | succ f =>
    refine wpAny_pyNext_range_item (s := ⟨h, gs, dr, t, os⟩) hit (by omega) fun h₂ hit₂ hs₂ => ?_
    have e1 : ((jj : Nat) : Int) + 1 = ((jj + 1 : Nat) : Int) := by omega
    have e2 : ((f + 1 : Nat) : Int) - 1 = (f : Nat) := by omega
    rw [e1, e2] at hit₂
    exact hI (.int (.lit (Int.ofNat jj))) _ _ h₂ _ _ ⟨_, _, rfl, rfl⟩ (I'.ext_upd (fun b o hb e => (hs₂.2 b hb).trans e) hit₂) hkk fun y s' hy => ⟨f + 1, Nat.lt_succ_self _, jj + 1, f, rfl, rfl, hy⟩
structure CompOk (C : Cx) (c : CmpS) (iter : PySem.Expr) : Prop where
  hc : C.cmp = none
  hh : C.hdl = false
  sc : c.sc.kind = .function
  cell : ∀ y ∈ c.sc.names, y.2 ≠ .cell
  names : ∀ y ∈ c.sc.names, y.2 = .local → c.sc.names.lookup y.1 = some .local
  x : c.sc.names.lookup c.x = some .local
  clos : ∀ D : Dy, closureFor c.sc (fenv C D) = pure (c.clo D.L)
  fold : ∀ (D : Dy) v, foldedSetIterable iter (fenv C D) v = pure v
theorem comp_post {Q : Value → Shared → Prop} {A : Around} {E : Value → Shared → Prop} {r' : Va} {s₂ : St} {h₂ : Heap} {t₂ : Nat} {v : AV} {a Cb : Addr} {oC : Obj} {m₂ : Str → Option Value} (I : Inv w C (D.ex (Cb, oC)) r' s₂ h₂) (ho : LCg.NsObj oC m₂)
    (k : ∀ h', Inv w C D r' s₂ h' → Q (.ref a) ⟨h', D.gs, D.d, t₂, D.os⟩) : compPost (model PG w) A E none Q (.ref a) Cb (.ok .next) ⟨h₂, D.gs, D.d, t₂, D.os⟩ :=
  ⟨m₂, ho.ns I.ext_at, fun h' hs => k h' (I.ext_drop fun b o hb e => (hs.2 b hb).trans e)⟩
theorem comp_use {i : Nat} {y : Str} {py : Pos} {Q : Value → Shared → Prop} {A : Around} {E : Value → Shared → Prop} {r' : Va} {s₂ : St} {h₂ : Heap} {t₂ : Nat} {v : AV} {a Cb : Addr} {oC : Obj} {m₂ : Str → Option Value} (G : Good w mg mb means C D) (hx : C.ns[i]? = some y)
    (hl : C.cs.names.lookup y = some .local ∨ (C.cs.names.lookup y = some .cell ∧ ∀ L, ((cellsFrom (L + 1) C.cs.names []).lookup y).isSome = true))
    (I : Inv w C (D.ex (Cb, oC)) r' s₂ h₂) (ho : LCg.NsObj oC m₂) (hv : VR r' v (.ref a))
    (k : ∀ h' t', Inv w C D r' (setLoc i v s₂) h' → Q .none ⟨h', D.gs, D.d, t', D.os⟩) : compPost (model PG w) A E (some (assign (.Name y py) (fenv C D))) Q (.ref a) Cb (.ok .next) ⟨h₂, D.gs, D.d, t₂, D.os⟩ := by
  show wpAny (model PG w) A (assign (.Name y py) (fenv C D) (.ref a)) _ E _
  refine wpAny_assign_Name (st_inv (D := D.ex (Cb, oC)) G.ex I hx hv hl fun h' t' I' => ?_)
  exact ⟨m₂, ho.ns I'.ext_at, fun h'' hs => k h'' t' (I'.ext_drop fun b o hb e => (hs.2 b hb).trans e)⟩
noncomputable def CompNext (w : World) (C : Cx) (D : Dy) (c : CmpS) (elt iter : PySem.Expr) (px pos : Pos) (RR : Value → Addr → Result → Shared → Prop) (E : Value → Shared → Prop) (xv : Value) (s₁ : Shared) : Prop :=
  wpAny (model PG w) (C.A D) (pyIter xv) (fun it s₂ => wpAny (model PG w) (C.A D) (newList []) (fun acc s₃ => wpAny (model PG w) (C.A D) (newFunctionEnv c.sc (fenv C D).globals (c.clo D.L) [] (fenv C D).qual none .none (some (fenv C D))) (fun cenv s₄ =>
      codeAny (model PG w) (C.A D) (.compStart (.ListComp elt [⟨.Name c.x px, iter, [], 0⟩] c.sc pos) 0 it acc { cenv with scope := relabel c.sc (fenv C D) }) (RR acc cenv.locals) s₄) E s₃) E s₂) E s₁
theorem comp_list {x : Sx} {elt iter : PySem.Expr} {c : CmpS} {px pos : Pos} {r : Va} {s : St} {h : Heap} {t : Nat} {v : AV} {v' : Value} {k kr : KV} {RR : Value → Addr → Result → Shared → Prop} {E : Value → Shared → Prop} (O : CompOk C c iter)
    (hx : SndX w mg mb means (C.in c) x elt) (G : Good w mg mb means C D) (I : Inv w C D r s h) (hv : VR r v v') (hk : onList v s (fun _ => comps x v 41 0 [] s k kr) = true)
    (hend : ∀ r' s₂ h₂ t₂ v a Cb oC m₂, r.Le r' → k v s₂ = true → Inv w C (D.ex (Cb, oC)) r' s₂ h₂ → LCg.NsObj oC m₂ → VR r' v (.ref a) → RR (.ref a) Cb (.ok .next) ⟨h₂, D.gs, D.d, t₂, D.os⟩)
    (herr : ∀ r' mv s₂ v' h₂ t₂ I oI' Da oa Cb oC v₀, r.Le r' → kr mv s₂ = true → (∃ m₂, LCg.NsObj oC m₂) → Fly w (C.in c) { D.e3 I oI' Da oa Cb oC with cm := some ⟨Cb, v₀⟩ } r' mv s₂ v' h₂ → notedBy (model PG w) (C.A D) (compEnvC c.sc (c.clo D.L) Cb (fenv C D)) (fun e s' => RR (.ref Da) Cb (.error e) s') v' ⟨h₂, D.gs, D.d, t₂, D.os⟩) :
    CompNext w C D c elt iter px pos RR E v' ⟨h, D.gs, D.d, t, D.os⟩ := by
  obtain ⟨j, xs, g, m, cells, pre, post, a, d, vs, n, rfl, e2, hk, rfl, e5, Gg, F, N, Co, hvs, hle, hup⟩ := list_at I hv hk
  have hL : h.IsList a vs.toArray := ⟨_, (N _ (mem3 (.head _))).1, rfl, n, rfl⟩
  refine wpAny_pyIter_list (s := ⟨h, D.gs, D.d, t, D.os⟩) hL ?_
  exact comp_run (st := StL x j a k kr) (n := 41) O.hc hx G O.sc O.cell O.x (Inv.ext_in (p := (h.objs.size, _)) I (fun b o e => Heap.get?_push_of_some _ e) (Heap.get?_push_size _ rfl) (Nat.le_refl _)) ⟨0, rfl, rfl, hk⟩ (by omega) (next_list (G.hd O.hh) e5)
    (fun h₁ t₁ Q E e q => wpAny_pyIter_listiter (s := ⟨h₁, D.gs, D.d, t₁, D.os⟩) ⟨_, e, rfl, rfl⟩ q) hend fun r' mv s₂ v' h₂ t₂ => herr r' mv s₂ v' h₂ t₂ _
theorem comp_range {x : Sx} {elt iter : PySem.Expr} {c : CmpS} {px pos : Pos} {r : Va} {s : St} {h : Heap} {t t2 t3 t4 : Nat} {R : Addr} {n : Nat} {k : KV} {RR : Value → Addr → Result → Shared → Prop} {E : Value → Shared → Prop} (O : CompOk C c iter)
    (hx : SndX w mg mb means (C.in c) x elt) (G : Good w mg mb means C D) (I : Inv w C D r s h) (hR : IsRange h R 0 (n : Nat) 1 t2 t3 t4) (hn : n ≤ 40) (hk : compsR x n 0 [] s k = true)
    (hend : ∀ r' s₂ h₂ t₂ v a Cb oC m₂, r.Le r' → k v s₂ = true → Inv w C (D.ex (Cb, oC)) r' s₂ h₂ → LCg.NsObj oC m₂ → VR r' v (.ref a) → RR (.ref a) Cb (.ok .next) ⟨h₂, D.gs, D.d, t₂, D.os⟩) :
    CompNext w C D c elt iter px pos RR E (.ref R) ⟨h, D.gs, D.d, t, D.os⟩ := by
  refine wpAny_pyIter_range (s := ⟨h, D.gs, D.d, t, D.os⟩) hR (range_small hn) ?_
  rw [range_size]
  exact comp_run (st := StR x k) (n := n + 1) (kr := noR) O.hc hx G O.sc O.cell O.x (Inv.ext_in (p := (h.objs.size, _)) I (fun b o e => Heap.get?_push_of_some _ e) (Heap.get?_push_size _ rfl) (Nat.le_refl _)) ⟨0, n, rfl, rfl, hk⟩ (by omega) (next_range (G.hd O.hh))
    (fun h₁ t₁ Q E e q => wpAny_pyIter_rangeiter (s := ⟨h₁, D.gs, D.d, t₁, D.os⟩) e q) hend fun _ _ _ _ _ _ _ _ _ _ _ _ _ hf => by cases hf
theorem snd_comp {x y : Sx} {elt iter : PySem.Expr} {c : CmpS} {px pos : Pos} (O : CompOk C c iter) (hx : SndX w mg mb means (C.in c) x elt) (hy : SndX w mg mb means C y iter) : SndX w mg mb means C (xComp x y) (.ListComp elt [⟨.Name c.x px, iter, [], 0⟩] c.sc pos) := by
  intro D r s h t k kr Q E G hk I kq ke
  rw [Good.env0 O.hc, eval_ListComp]
  refine wpAny_comprehension_free (use := none) rfl (O.fold D) (O.clos D) O.sc O.names ?_
  have := hy D r s h t _ kr (CompNext w C D c elt iter px pos (fun acc Cb => compPost (model PG w) (C.A D) E none Q acc Cb) E) E G hk I (fun r₁ v s₁ v' h₁ t₁ l₁ hk₁ I₁ hv => comp_list O hx G I₁ hv hk₁
    (fun r₂ s₂ h₂ t₂ v₂ a Cb oC m₂ l₂ hk₂ I₂ ho hv₂ => comp_post (v := v₂) I₂ ho fun h' I' => kq r₂ v₂ s₂ _ h' t₂ (l₁.trans l₂) hk₂ I' hv₂) fun _ _ _ _ _ _ _ _ _ _ _ _ _ _ hf => by cases hf) ke
  rw [Good.env0 O.hc] at this
  exact this
theorem snd_compR {x y : Sx} {elt e : PySem.Expr} {c : CmpS} {nm : Str} {p q px pos : Pos} (O : CompOk C c (.Call (.Name nm p) [e] [] q)) (gb : GB w.params nm (.type "range")) (hko : kOf C nm = some .globalImplicit) (hdb : (nm == ("__debug__" : Str)) = false)
    (hst : ∀ env, starEach [e] env = [(false, eval e env)]) (hx : SndX w mg mb means (C.in c) x elt) (hy : SndX w mg mb means C y e) : SndX w mg mb means C (xCompR x y) (.ListComp elt [⟨.Name c.x px, .Call (.Name nm p) [e] [] q, [], 0⟩] c.sc pos) := by
  intro D r s h t k kr Q E G hk I kq ke
  rw [Good.env0 O.hc, eval_ListComp]
  refine wpAny_comprehension_free (use := none) rfl (O.fold D) (O.clos D) O.sc O.names ?_
  have := range_src (t := t) (k := fun n s => compsR x n 0 [] s k) (Q := CompNext w C D c elt (.Call (.Name nm p) [e] [] q) px pos (fun acc Cb => compPost (model PG w) (C.A D) E none Q acc Cb) E) (p := p) (pos := q) gb hko hdb hy hst G hk I (fun r₁ n s₁ h₁ t₁ R t2 t3 t4 l₁ hn hk₁ I₁ hR => comp_range O hx G I₁ hR hn hk₁
    (fun r₂ s₂ h₂ t₂ v₂ a Cb oC m₂ l₂ hk₂ I₂ ho hv₂ => comp_post (v := v₂) I₂ ho fun h' I' => kq r₂ v₂ s₂ _ h' t₂ (l₁.trans l₂) hk₂ I' hv₂)) ke
  rw [Good.env0 O.hc] at this
  exact this
theorem snds_asgC {i : Nat} {z : Str} {x y : Sx} {elt iter : PySem.Expr} {c : CmpS} {px py pos spos : Pos} (O : CompOk C c iter) (hx : SndX w mg mb means (C.in c) x elt) (hy : SndX w mg mb means C y iter) (hz : C.ns[i]? = some z)
    (hl : C.cs.names.lookup z = some .local ∨ (C.cs.names.lookup z = some .cell ∧ ∀ L, ((cellsFrom (L + 1) C.cs.names []).lookup z).isSome = true))
    (hsw : ∀ D, swapsWith (.ListComp elt [⟨.Name c.x px, iter, [], 0⟩] c.sc pos) (some (.Name z py)) spos.line (fenv C D) = pure true) : SndS w mg mb means C (sAsg i (xComp x y)) (.Assign [.Name z py] (.ListComp elt [⟨.Name c.x px, iter, [], 0⟩] c.sc pos) spos) := by
  intro D r s h t k kret kr Q E G hk I fq ke
  rw [Good.env0 O.hc, exec_Assign_Name_used _ _ _ _ (hsw D)]
  refine wpAny_bind (wpAny_standAt (wpAny_bind ?_))
  show wpAny _ (C.A D) (do let _ ← comprehension (.ListComp elt [⟨.Name c.x px, iter, [], 0⟩] c.sc pos) c.sc (fenv C D) _ (newList []) false (eval iter (fenv C D)) (some (assign (.Name z py) (fenv C D)))) _ _ _
  have := hy D r s h t _ kr (CompNext w C D c elt iter px pos (fun acc Cb => compPost (model PG w) (C.A D) E (some (assign (.Name z py) (fenv C D))) (fun _ s' => Q .next s') acc Cb) E) E G hk I (fun r₁ v s₁ v' h₁ t₁ l₁ hk₁ I₁ hv => comp_list O hx G I₁ hv hk₁
    (fun r₂ s₂ h₂ t₂ v₂ a Cb oC m₂ l₂ hk₂ I₂ ho hv₂ => comp_use G hz hl I₂ ho hv₂ fun h' t' I' => fq.1 r₂ _ h' t' (l₁.trans l₂) hk₂ I') fun _ _ _ _ _ _ _ _ _ _ _ _ _ _ hf => by cases hf) ke
  rw [Good.env0 O.hc] at this
  exact wpAny_bind (wpAny_mono (wpAny_comprehension_free (use := some (assign (.Name z py) (fenv C D))) (Q := fun _ s' => Q .next s') rfl (O.fold D) (O.clos D) O.sc O.names this) (fun _ s' hq => wpAny_pure (wpAny_pure hq)) fun _ _ e => e)
theorem snds_asgCR {i : Nat} {z nm : Str} {x y : Sx} {elt e : PySem.Expr} {c : CmpS} {p q px py pos spos : Pos} (O : CompOk C c (.Call (.Name nm p) [e] [] q)) (gb : GB w.params nm (.type "range")) (hko : kOf C nm = some .globalImplicit) (hdb : (nm == ("__debug__" : Str)) = false)
    (hst : ∀ env, starEach [e] env = [(false, eval e env)]) (hx : SndX w mg mb means (C.in c) x elt) (hy : SndX w mg mb means C y e) (hz : C.ns[i]? = some z)
    (hl : C.cs.names.lookup z = some .local ∨ (C.cs.names.lookup z = some .cell ∧ ∀ L, ((cellsFrom (L + 1) C.cs.names []).lookup z).isSome = true))
    (hsw : ∀ D, swapsWith (.ListComp elt [⟨.Name c.x px, .Call (.Name nm p) [e] [] q, [], 0⟩] c.sc pos) (some (.Name z py)) spos.line (fenv C D) = pure true) : SndS w mg mb means C (sAsg i (xCompR x y)) (.Assign [.Name z py] (.ListComp elt [⟨.Name c.x px, .Call (.Name nm p) [e] [] q, [], 0⟩] c.sc pos) spos) := by
  intro D r s h t k kret kr Q E G hk I fq ke
  rw [Good.env0 O.hc, exec_Assign_Name_used _ _ _ _ (hsw D)]
  refine wpAny_bind (wpAny_standAt (wpAny_bind ?_))
  show wpAny _ (C.A D) (do let _ ← comprehension (.ListComp elt [⟨.Name c.x px, .Call (.Name nm p) [e] [] q, [], 0⟩] c.sc pos) c.sc (fenv C D) _ (newList []) false (eval (.Call (.Name nm p) [e] [] q) (fenv C D)) (some (assign (.Name z py) (fenv C D)))) _ _ _
  have := range_src (t := t) (k := fun n s => compsR x n 0 [] s (fun v s => k (setLoc i v s))) (Q := CompNext w C D c elt (.Call (.Name nm p) [e] [] q) px pos (fun acc Cb => compPost (model PG w) (C.A D) E (some (assign (.Name z py) (fenv C D))) (fun _ s' => Q .next s') acc Cb) E) (p := p) (pos := q) gb hko hdb hy hst G hk I (fun r₁ n s₁ h₁ t₁ R t2 t3 t4 l₁ hn hk₁ I₁ hR => comp_range O hx G I₁ hR hn hk₁
    (fun r₂ s₂ h₂ t₂ v₂ a Cb oC m₂ l₂ hk₂ I₂ ho hv₂ => comp_use G hz hl I₂ ho hv₂ fun h' t' I' => fq.1 r₂ _ h' t' (l₁.trans l₂) hk₂ I')) ke
  rw [Good.env0 O.hc] at this
  exact wpAny_bind (wpAny_mono (wpAny_comprehension_free (use := some (assign (.Name z py) (fenv C D))) (Q := fun _ s' => Q .next s') rfl (O.fold D) (O.clos D) O.sc O.names this) (fun _ s' hq => wpAny_pure (wpAny_pure hq)) fun _ _ e => e)
end
section
variable {M : Model} {A : Around} {E : Value → Shared → Prop} {s : Shared}
noncomputable def NotedD (B : Heap) (e d : Addr) (fl : Value) (h : Heap) : Prop :=
  ∃ oe vs T oT ts, h.get? e = some oe ∧ oe.cls = .ref 75 ∧ oe.dict = some d ∧ oe.data = .fields vs ∧ vs[1]? = some (.ref T) ∧ B.get? T = none ∧ T ≠ e ∧ h.get? T = some oT ∧ oT.data = .fields ts ∧ ts[3]? = some fl
theorem NotedD.traced {B h : Heap} {e d : Addr} (x : NotedD B e d .none h) : TracedD B e d h := by
  obtain ⟨oe, vs, T, oT, ts, a, b, c, d, f, r⟩ := x
  obtain ⟨r1, r2, r3, r4, r5⟩ := r
  exact ⟨oe, vs, a, b, c, d, .inr ⟨T, oT, ts, f, r1, r2, r3, r4, none, r5⟩⟩
structure OverD (B : Heap) (l : List Env) (h h' : Heap) : Prop where
  stays : B.StaysIn h'
  frames : h'.FunFrames B l
  up : h.UpToSlots h'
theorem frames_mapFields_dict (o : Obj) (f : Array Value → Array Value) : (Obj.mapFields f o).dict = o.dict := by
  obtain ⟨c, d, dt, sl⟩ := o
  cases dt <;> rfl
theorem no_record {h : Heap} {e : Addr} {oe : Obj} {vs : Array Value} (he : h.get? e = some oe) (hd : oe.data = .fields vs) : ∀ b o, h.get? b = some o → (∀ vs, o.data ≠ .fields vs) → b ≠ e := fun b o hb hnf q => by
  rw [q, he] at hb; cases hb; exact hnf vs hd
theorem OverD.set {B h h₁ : Heap} {l : List Env} {e : Addr} {oe : Obj} {vs : Array Value} {f : Array Value → Array Value} (X : OverD B l h h₁) (he : h₁.get? e = some oe) (hd : oe.data = .fields vs) (hen : B.get? e = none) : OverD B l h (h₁.update e (Obj.mapFields f)) := by
  have other : ∀ b, b ≠ e → (h₁.update e (Obj.mapFields f)).get? b = h₁.get? b := fun b hb => Heap.get?_update_other _ _ (Ne.symm hb)
  refine ⟨fun b o hb => (other b fun q => by rw [q, hen] at hb; cases hb).trans (X.stays b o hb), X.frames.of_keeps fun b o hb hnf => ⟨o, (other b (no_record he hd b o hb hnf)).trans hb, rfl⟩, X.up.trans fun b o hb hnf => ⟨o.slots, ?_⟩⟩
  exact (other b (no_record he hd b o hb hnf)).trans hb
theorem entryD {B h₀ : Heap} {env : Env} {outer : List Env} {L e d : Addr} {oe : Obj} {vs : Array Value} {head : Value} {hadNext : Bool} {Q : Unit → Shared → Prop}
    (hfr : A.frames = some (env :: outer)) (hf : env.frame = some L) (X : OverD B (env :: outer) h₀ s.heap) (he : s.heap.get? e = some oe) (hc : oe.cls = .ref 75) (hdi : oe.dict = some d) (hen : B.get? e = none) (hd : oe.data = .fields vs) (hsz : 1 < vs.size)
    (k : ∀ h', OverD B (env :: outer) h₀ h' → NotedD B e d (rawInt L) h' → Q () { s with heap := h' }) :
    wpAny M A (do let a ← frameOf env; let pl ← entryPlaceOf L hadNext; let b ← EntryCells.newEntry head a .none (rawInt L) .none pl; setField (.ref e) 1 b) Q E s := by
  have hl := X.frames
  have hene : e ∉ (env :: outer).filterMap (·.frame) := fun hm => by
    obtain ⟨_, o, ho, hnf⟩ := hl.mem hm
    rw [he] at ho; cases ho; exact hnf vs hd
  refine wpAny_bind (wpAny_frameOf_fun hfr hl hf fun h₁ hs₁ => ?_)
  refine wpAny_bind (wpAny_entryPlaceOf fun pl hpl => ?_)
  unfold EntryCells.newEntry newFields
  refine wpAny_bind (wpAny_newObj_type ?_ (hpl.sizeOk5 _ _ _ _ _))
  have he₁ : h₁.get? e = some oe := (hs₁.2.1 e hene).trans he
  have X₁ : OverD B (env :: outer) h₀ h₁ := by
    refine ⟨fun b o hbo => (hs₁.2.1 b fun hm => by rw [(hl.mem hm).1] at hbo; cases hbo).trans (X.stays b o hbo), ?_, X.up.trans fun b o hb hnf => hs₁.2.2 b o hb⟩
    refine hl.of_keeps fun b o hb hnf => ?_
    obtain ⟨sl, hs⟩ := hs₁.2.2 b o hb
    exact ⟨_, hs, rfl⟩
  generalize hoT : ({ cls := .type "traceback", dict := none, data := .fields ([head, .ref L, .none, rawInt L, .none] ++ (if pl.isEmpty then List.replicate 6 Value.none else pl)).toArray } : Obj) = oT
  have hdT : oT.data = .fields ([head, .ref L, .none, rawInt L, .none] ++ (if pl.isEmpty then List.replicate 6 Value.none else pl)).toArray := by rw [← hoT]
  have up : ∀ b o, h₁.get? b = some o → (h₁.push oT).get? b = some o := fun b o e => Heap.get?_push_of_some _ e
  have X₂ : OverD B (env :: outer) h₀ (h₁.push oT) := ⟨fun b o hb => up b o (X₁.stays b o hb), X₁.frames.of_keeps fun b o hb _ => ⟨o, up b o hb, rfl⟩, X₁.up.trans (.of_keeps up)⟩
  have he₂ := up e oe he₁
  have hTe : h₁.objs.size ≠ e := Nat.ne_of_gt (Heap.lt_size he₁)
  have hnT : B.get? h₁.objs.size = none := by
    cases q : B.get? h₁.objs.size with
    | none => rfl
    | some o => exact absurd (Heap.lt_size (X₁.stays _ _ q)) (Nat.lt_irrefl _)
  refine wpAny_setField he₂ hd hsz (k _ (X₂.set he₂ hd hen) ?_)
  have hd₃ := Obj.data_mapFields hd (·.setIfInBounds 1 (Value.ref h₁.objs.size))
  refine ⟨_, _, h₁.objs.size, oT, _, Heap.get?_update_self _ he₂ (Obj.isFreed_of_fields hd₃), by rw [Obj.cls_mapFields, hc], by rw [frames_mapFields_dict, hdi], hd₃, by simp [hsz], hnT, hTe,
    (Heap.get?_update_other _ _ (Ne.symm hTe)).trans (Heap.get?_push_size h₁ (by rw [← hoT]; rfl)), hdT, by first | (simp; done) | (rcases hpl with rfl | ⟨_, _, _, _, _, _, _, rfl⟩ <;> simp)⟩
theorem landsD {B h₀ : Heap} {l : List Env} {e d : Addr} {fl : Value} {Q : Unit → Shared → Prop} (X : OverD B l h₀ s.heap) (N : NotedD B e d fl s.heap)
    (k : ∀ h', OverD B l h₀ h' → NotedD B e d .none h' → Q () { s with heap := h' }) : wpAny M A (setFlight (.ref e) none) Q E s := by
  obtain ⟨oe, vs, T, oT, ts, he, hc, hdi, hd, h1, hnT, hTe, hT, hdT, h3⟩ := N
  have hsz3 : 3 < ts.size := (Array.getElem?_eq_some_iff.mp h3).1
  unfold setFlight
  refine wpAny_bind (wpAny_field he hd h1 ?_)
  rw [if_pos (show (Value.ref T != Value.none) = true from by simp)]
  refine wpAny_setField hT hdT hsz3 (k _ (X.set hT hdT hnT) ?_)
  exact ⟨oe, vs, T, _, _, (Heap.get?_update_other _ _ hTe).trans he, hc, hdi, hd, h1, hnT, hTe, Heap.get?_update_self _ hT (Obj.isFreed_of_fields (Obj.data_mapFields hdT _)), Obj.data_mapFields hdT _, by simp [hsz3]⟩
theorem noteD {B h₀ : Heap} {env : Env} {outer : List Env} {L e d : Addr} {Q : Unit → Shared → Prop} (hfr : A.frames = some (env :: outer)) (hf : env.frame = some L) (X : OverD B (env :: outer) h₀ s.heap) (hen : B.get? e = none) (T : TracedD B e d s.heap)
    (k : ∀ h', OverD B (env :: outer) h₀ h' → NotedD B e d (rawInt L) h' → Q () { s with heap := h' }) : wpAny M A (noteFrame (.ref e) env) Q E s := by
  obtain ⟨oe, vs, he, hc, hdi, hd, h1⟩ := T
  unfold noteFrame
  simp only [hf]
  rcases h1 with h1 | ⟨T, oT, ts, h1, hnT, hTe, hT, hdT, f, h3⟩
  · refine wpAny_bind (wpAny_field he hd h1 ?_)
    rw [if_neg (by decide)]
    exact entryD hfr hf X he hc hdi hen hd (Array.getElem?_eq_some_iff.mp h1).1 k
  · refine wpAny_bind (wpAny_field he hd h1 ?_)
    rw [if_pos (show (Value.ref T != Value.none) = true from by simp)]
    refine wpAny_bind (wpAny_field hT hdT h3 ?_)
    by_cases hfl : (f.elim Value.none (fun a => rawInt a) == rawInt L) = true
    · rw [if_pos hfl]
      have hfL : f.elim Value.none (fun a => rawInt a) = rawInt L := by
        cases f with
        | none => simp [rawInt] at hfl
        | some f => simpa [rawInt] using hfl
      rw [hfL] at h3
      exact wpAny_pure (k s.heap X ⟨oe, vs, T, oT, ts, he, hc, hdi, hd, h1, hnT, hTe, hT, hdT, h3⟩)
    rw [if_neg hfl]
    refine wpAny_bind (wpAny_setField hT hdT (Array.getElem?_eq_some_iff.mp h3).1 ?_)
    exact entryD hfr hf (X.set hT hdT hnT) ((Heap.get?_update_other _ _ hTe).trans he) hc hdi hen hd (Array.getElem?_eq_some_iff.mp h1).1 k
theorem noteD_again {B : Heap} {env : Env} {L e d : Addr} {Q : Unit → Shared → Prop} (hf : env.frame = some L) (N : NotedD B e d (rawInt L) s.heap) (k : Q () s) : wpAny M A (noteFrame (.ref e) env) Q E s := by
  obtain ⟨oe, vs, T, oT, ts, he, hc, hdi, hd, h1, hnT, hTe, hT, hdT, h3⟩ := N
  unfold noteFrame
  simp only [hf]
  refine wpAny_bind (wpAny_field he hd h1 ?_)
  rw [if_pos (show (Value.ref T != Value.none) = true from by simp)]
  refine wpAny_bind (wpAny_field hT hdT h3 ?_)
  rw [if_pos (show (rawInt L == rawInt L) = true from by simp)]
  exact wpAny_pure k
theorem leaveD {B h₀ : Heap} {env : Env} {outer : List Env} {L e d : Addr} {Q : Unit → Shared → Prop} (hfr : A.frames = some (env :: outer)) (hf : env.frame = some L) (X : OverD B (env :: outer) h₀ s.heap) (hen : B.get? e = none) (T : TracedD B e d s.heap)
    (k : ∀ h', OverD B (env :: outer) h₀ h' → NotedD B e d .none h' → Q () { s with heap := h' }) : wpAny M A (leaving env (.ref e)) Q E s := by
  unfold leaving
  exact wpAny_bind (noteD hfr hf X hen T fun h' X' N' => landsD X' N' k)
end
section
variable {w : World} {mg mb : Str → Option Value} {means : ExcName → Option Value} {C : Cx} {D : Dy}
theorem kts_memF {b : Addr} (hm : b ∈ (fenv C D :: D.outer).filterMap (·.frame)) : b = D.L ∨ b ∈ D.fs := by
  obtain ⟨env, he, hf⟩ := List.mem_filterMap.mp hm
  rcases List.mem_cons.mp he with rfl | he
  · exact .inl (Option.some.inj hf).symm
  · exact .inr (List.mem_filterMap.mpr ⟨env, he, hf⟩)
theorem leave_T {g gg g' h' : Heap} {m : Str → Option Value} (Gg : Gr D gg) (FG : Fr gg D.L g m) (st : gg.StaysIn g) (T' : KtsTurn ((fenv C D :: D.outer).filterMap (·.frame)) g g') (keep : ∀ b o, g'.get? b = some o → h'.get? b = some o) :
    ∃ g₂, Gr D g₂ ∧ Fr g₂ D.L h' m ∧ ∀ q, g'.get? q = none → q ≠ D.L ∧ g₂.get? q = none := by
  have nL₀ : gg.get? D.L = none := kts_self FG
  obtain ⟨oL, es, ep, hLg, hLd, hLk, hLf⟩ := FG.ns
  obtain ⟨sl, hs⟩ := T'.up hLg
  obtain ⟨T₁, S₁⟩ := kts_turn_at (h := h') (fs := D.fs) (g := gg)
    (fun b hb => by
      obtain ⟨_, o, ho', _⟩ := Gg.B.frames.mem hb
      exact ⟨o, ho'⟩)
    (fun b o e nmem => keep b o (T'.other b o (st b o e) (fun q => by
      rcases kts_memF q with z | z
      · rw [z, nL₀] at e
        cases e
      · exact nmem z)))
    (fun b o e hm => by
      obtain ⟨sl', hs'⟩ := T'.up (st b o e)
      exact ⟨sl', keep _ _ hs'⟩)
  have B₃ : Below D.A₀ D.base D.outer (ktsHeap h' D.fs gg) := ⟨Gg.B.stack, fun b o e => T₁.other b o (Gg.B.stays b o e) (fun hm => by
    rw [(Gg.B.frames.mem hm).1] at e
    cases e), Gg.B.frames.of_keeps fun b o e _ => by
    obtain ⟨sl', hs'⟩ := T₁.up e
    exact ⟨_, hs', rfl⟩⟩
  refine ⟨_, ⟨Gg.T.trans T₁, B₃, Gg.K.turn T₁⟩, ⟨⟨_, es, ep, keep _ _ hs, hLd, hLk, hLf⟩, S₁, by rw [T₁.size]; exact FG.above⟩, fun q hq => ⟨fun e => ?_, T₁.none_ _ ?_⟩⟩
  · rw [e, hs] at hq; cases hq
  · cases q' : gg.get? q with
    | none => rfl
    | some o =>
      obtain ⟨sl', hs'⟩ := T'.up (st _ _ q')
      rw [hs'] at hq; cases hq
theorem cells_all {cm : Str → Option Value} {P : Addr → Prop} {cs : List (Str × Addr)} {cells : List (Addr × Obj)} (x : CellsAre cm cs cells) (h : ∀ n c, (n, c) ∈ cs → P c) : ∀ p ∈ cells, P p.1 := by
  induction x with
  | nil => intro p hp; cases hp
  | cons hd _ ih =>
    intro p hp
    rcases List.mem_cons.mp hp with rfl | hp
    · exact h _ _ (.head _)
    · exact ih (fun n c hm => h n c (.tail _ hm)) p hp
theorem cells_keys {cm : Str → Option Value} {cs : List (Str × Addr)} {cells : List (Addr × Obj)} (x : CellsAre cm cs cells) : cells.map (·.1) = cs.map (·.2) := by
  induction x with
  | nil => rfl
  | cons _ _ ih => rw [List.map_cons, List.map_cons, ih]
theorem cells_get {cm : Str → Option Value} {cs : List (Str × Addr)} {cells : List (Addr × Obj)} (x : CellsAre cm cs cells) : ∀ {n : Str} {c : Addr}, cs.lookup n = some c → ∃ o, (c, o) ∈ cells ∧ o.data = .cell (cm n) := by
  induction x with
  | nil => intro n c h; cases h
  | @cons n' c' o cs cells hd x ih =>
    intro n c h
    rw [List.lookup_cons] at h
    cases q : n == n' with
    | true =>
      rw [q] at h; cases h
      rw [eq_of_beq q]
      exact ⟨o, .head _, hd⟩
    | false =>
      rw [q] at h
      obtain ⟨o', a, b⟩ := ih h
      exact ⟨o', .tail _ a, b⟩
theorem enter_T {gg h : Heap} {m : Str → Option Value} {all : List (Addr × Obj)} {t : Nat} {R : Result → Shared → Prop} {f : Addr} {name qual : Str} {params : Arguments} {body : List Stmt} {scope : Scope} {dV kV doc pm cdv ct oc : Value} {an od : Option Addr} {osl : Array (Option Value)} {args : Args} {binds : List (Str × Value)}
    (G : Good w mg mb means C D) (Gg : Gr D gg) (F : Fr gg D.L h m) (N : News gg D.L h all)
    (ho : (hd.heap_1 w.params).lookup f = some ⟨oc, od, .func (fnX name qual params body scope [] dV kV doc pm an cdv ct), osl⟩) (hcd : codeIn (hd.heap_1 w.params) cdv qual = true) (hroom : D.dp < recursionLimit)
    (hbind : BindsTo ⟨h, D.gs, D.d, t, D.os⟩ (fnX name qual params body scope [] dV kV doc pm an cdv ct) args binds) (hkind : (binds.all fun y => scope.names.lookup y.1 == some .local || scope.names.lookup y.1 == some .cell) = true)
    (hnd : ((cellsFrom 0 scope.names []).map (·.1)).Nodup)
    (H : ∀ g L' h₁ tk cells, Fr gg D.L g m → gg.StaysIn g → Fr g L' h₁ (bindL (envOfC qual scope L' f cdv).kindOf binds fun _ => none) → News g L' h₁ (cells ++ all) →
      CellsAre (bindC (envOfC qual scope L' f cdv).kindOf binds fun _ => none) (cellsFrom (L' + 1) scope.names []) cells → (∀ p ∈ cells, @LT.lt Nat _ L' p.1) → (∀ p ∈ all, p.1 < L') → Below (C.A D) D.base (fenv C D :: D.outer) g → KtsDicts ((fenv C D :: D.outer).filterMap (·.frame)) g →
      wpAny (model PG w) ((C.A D).deeper (envOfC qual scope L' f cdv)) (execs body (envOfC qual scope L' f cdv)) (fun fl s' => R (.ok (.ret (match fl with | .ret v => v | _ => .none))) s')
        (fun e s' => wpAny (model PG w) ((C.A D).deeper (envOfC qual scope L' f cdv)) (leaving (envOfC qual scope L' f cdv) e) (fun _ s'' => R (.error e) s'') (fun e' s'' => R (.error e') s'') s')
        ⟨h₁, D.gs, D.d, tk, D.os⟩)
    (hco : scope.isCoroutine = false) (hgen : scope.isGenerator = false) (hk : scope.kind = .function) : codeAny (model PG w) (C.A D) (.call (.ref f) args) R ⟨h, D.gs, D.d, t, D.os⟩ := by
  obtain ⟨X', T'⟩ := Gg.top G
  have X := X'.keeps F.keep
  obtain ⟨FG, BG, st, _⟩ := groundX (s := ⟨h, D.gs, D.d, t, D.os⟩) (A := C.A D) (env := fenv C D) (R := R) Gg.B F N rfl rfl G.hk
  have hKD : KtsDicts ((fenv C D :: D.outer).filterMap (·.frame)) (hideAll h (all.map (·.1))) := fun b hb => by
    rcases kts_memF hb with rfl | hb
    · obtain ⟨oL, es, ep, hLg, hLd, _⟩ := FG.ns
      exact ⟨oL, es, ep, hLg, hLd⟩
    · obtain ⟨o, es', n', ho', hd'⟩ := Gg.K b hb
      exact ⟨o, es', n', st b o ho', hd'⟩
  refine codeAny_call_function hroom (X _ _ ho) rfl hco hgen rfl (codeRec_of X hcd) (hbind _ _ _ _ ?_)
  refine wpAny_newFunctionEnv_cells hk (kindsX hkind _) fun env' he s' x => ?_
  subst he
  refine ⟨(T'.nolimit.keeps F.keep).keeps x.toInCall.keep, codeAny_func ?_⟩
  obtain ⟨h₁, tk, rfl, _⟩ := x.done
  have hk₁ := x.toInCall.keep
  obtain ⟨cells, NC, Y⟩ := Cl.news (h₀ := h) (Nat.le_refl _) fun n c hm => ⟨x.cell n c (lookup_of_mem_nodup (cellsFrom_names scope.names 0 (h.objs.size + 1) [] [] rfl ▸ hnd) hm), x.above n c hm⟩
  refine H _ h.objs.size h₁ tk cells FG st ⟨x.toInCall.ns, fun b o e => hk₁ b o (of_hideAll _ e), Nat.le_of_eq (hideAll_size _ _)⟩ (fun p hp => ?_) Y (fun p hp => ?_) (fun p hp => Heap.lt_size (N p hp).1) BG hKD
  · rcases List.mem_append.mp hp with hp | hp
    · refine ⟨(NC p hp).1, (NC p hp).2.1, ?_⟩
      cases q : (hideAll h (all.map (·.1))).get? p.1 with
      | none => rfl
      | some o => have := of_hideAll _ q; rw [(NC p hp).2.2] at this; cases this
    · exact ⟨hk₁ _ _ (N p hp).1, Nat.ne_of_lt (Heap.lt_size (N p hp).1), hideAll_none _ (List.mem_map_of_mem hp)⟩
  · exact cells_all Y (P := fun c => @LT.lt Nat _ h.objs.size c) (fun n c hm => x.above n c hm) p hp
noncomputable def SndF (w : World) (mg mb : Str → Option Value) (means : ExcName → Option Value) (f : Addr) (np lev : Nat) (B : List AV → Sx) : Prop :=
  ∀ (C : Cx) (D : Dy) (r : Va) (s : St) (h : Heap) (t : Nat) (vs : List AV) (vs' : List Value) (k kr : KV) (Q E : Value → Shared → Prop), Good w mg mb means C D → lev < C.lev → C.hdl = false → vs.length = np → B vs s k kr = true → Inv w C D r s h → VRs r vs vs' →
    (∀ r' u s' u' h' t', r.Le r' → k u s' = true → Inv w C D r' s' h' → VR r' u u' → Q u' ⟨h', D.gs, D.d, t', D.os⟩) →
    (∀ r' v s' v' h' t', r.Le r' → kr v s' = true → Fly w C D r' v s' v' h' → E v' ⟨h', D.gs, D.d, t', D.os⟩) →
    wpAny (model PG w) (C.A D) (call (.ref f) vs') Q E ⟨h, D.gs, D.d, t, D.os⟩
theorem leave_fly {Cf : Cx} {Df : Dy} {r r' : Va} {s sf : St} {mv : AV} {x : Value} {gg g h' : Heap} {t : Nat} {m : Str → Option Value} {cells news : List (Addr × Obj)} {R : Result → Shared → Prop} (ho : Df.outer = fenv C D :: D.outer) (hg : Df.g = g) (hb : Df.base = D.base) (he : Df.ext = cells ++ D.ext) (hsa : Df.sa = D.sa)
    (Gg : Gr D gg) (FG : Fr gg D.L g m) (st : gg.StaysIn g) (Co : Core w C D r s m cells news) (l : r.Le r') (X : Fly w Cf Df r' mv sf x h')
    (k : ∀ h₂ t₂, Fly w C D r' mv (back s sf) x h₂ → R (.error x) ⟨h₂, D.gs, D.d, t₂, D.os⟩) :
    wpAny (model PG w) (Cf.A Df) (leaving (fenv Cf Df) x) (fun _ s'' => R (.error x) s'') (fun e' s'' => R (.error e') s'') ⟨h', D.gs, D.d, t, D.os⟩ := by
  obtain ⟨g', G, m', cells', news', e, d, od, rfl, Gg', F', U, ⟨B, b1, b2, b3, b4, b5, b6, b7⟩, nd, dr, Co'⟩ := X
  refine leaveD (s := ⟨h', D.gs, D.d, t, D.os⟩) (B := B) (h₀ := h') rfl rfl ⟨b4, b6, Heap.UpToSlots.refl h'⟩ b5 b7 fun h₂ X₂ N₂ => k h₂ t ?_
  have hfs : Df.fs = (fenv C D :: D.outer).filterMap (·.frame) := by show Df.outer.filterMap _ = _; rw [ho]
  have T' := Gg'.T
  rw [hfs, hg] at T'
  obtain ⟨g₂, G₂, F₂, hq⟩ := leave_T (h' := g') (m := m) Gg FG st T' fun _ _ e => e
  have hp' : (news' ++ (cells ++ D.ext)).Perm (cells ++ (news' ++ D.ext)) := List.perm_append_comm_assoc _ _ _
  have hs : (news' ++ (cells ++ D.ext)).Sublist (cells' ++ (news' ++ (cells ++ D.ext))) := List.sublist_append_right _ _
  rw [he] at b3 nd
  have hs2 : ((d, od) :: (news' ++ (cells ++ D.ext))).Sublist ((d, od) :: (cells' ++ (news' ++ (cells ++ D.ext)))) := hs.cons_cons _
  have hp2 : ((d, od) :: (news' ++ (cells ++ D.ext))).Perm ((d, od) :: (cells ++ (news' ++ D.ext))) := .cons _ hp'
  have hcn := Co'.nd
  rw [he] at hcn
  have fr := X₂.frames
  rw [ho] at fr
  obtain ⟨_, _, fr⟩ := fr
  refine ⟨g₂, g', m, cells, news', e, d, od, rfl, G₂, F₂, ((Heap.UpToSlots.of_keeps F'.keep).trans U).trans X₂.up, ⟨B, hb ▸ b1, fun b o e nf => b2 b o (F'.keep b o e) fun hm => ?_, fun q hm => ?_, X₂.stays, b5, fr, N₂.traced⟩, (hp2.map (·.1)).nodup_iff.mp ((hs2.map (·.1)).nodup nd), dr,
    ⟨(hp'.map (·.1)).nodup_iff.mp ((hs.map (·.1)).nodup hcn), Co'.led, Co'.new, fun i v hi => (Co.slot i v hi).mono l, fun k hk => (Co.cv k hk).mono l, Co.cell, l _ _ Co.scr⟩⟩
  · rcases kts_memF hm with z | z
    · rw [z, kts_self F'] at e; cases e
    · exact nf (hfs ▸ z)
  · obtain ⟨c1, c2⟩ := b3 q (hs2.subset (hp2.mem_iff.mpr hm))
    exact ⟨c1, kts_none F'.keep c2⟩
theorem padL_get : ∀ {vs : List AV} {n i : Nat} {v : AV}, at? (padL vs n) i = some (some v) → at? vs i = some v
  | [], n, i, v, h => by
    have : ∀ (n i : Nat), at? (nones n) i ≠ some (some v) := by
      intro n
      induction n with
      | zero => intro i h; cases i <;> cases h
      | succ n ih => intro i h; cases i with
        | zero => cases h
        | succ i => exact ih i h
    exact (this n i h).elim
  | u :: r, n, 0, v, h => by cases h; rfl
  | u :: r, n, i + 1, v, h => padL_get (vs := r) h
theorem get_at {s : St} {i : Nat} {v : AV} (h : s.get i = some v) : at? s.loc i = some (some v) := by
  unfold St.get at h
  split at h
  · rename_i o e; rw [e, h]
  · cases h
theorem bindL_get {ko : Str → Option NameKind} : ∀ {binds : List (Str × Value)} {m : Str → Option Value} {x : Str}, x ∉ binds.map (·.1) → bindL ko binds m x = m x
  | [], m, x, _ => rfl
  | (n, v) :: r, m, x, h => by
    rw [List.map_cons, List.mem_cons, not_or] at h
    unfold bindL
    rw [bindL_get h.2]
    split
    · exact if_neg h.1
    · rfl
theorem bindC_get {ko : Str → Option NameKind} : ∀ {binds : List (Str × Value)} {m : Str → Option Value} {x : Str}, x ∉ binds.map (·.1) → bindC ko binds m x = m x
  | [], m, x, _ => rfl
  | (n, v) :: r, m, x, h => by
    rw [List.map_cons, List.mem_cons, not_or] at h
    unfold bindC
    rw [bindC_get h.2]
    split
    · rfl
    · exact if_neg h.1
theorem bind_at {ko : Str → Option NameKind} : ∀ {binds : List (Str × Value)} {m cm : Str → Option Value} {x : Str} {v : Value}, (binds.map (·.1)).Nodup → (x, v) ∈ binds → (ko x = some .local → bindL ko binds m x = some v) ∧ (ko x ≠ some .local → bindC ko binds cm x = some v)
  | [], _, _, _, _, _, h => nomatch h
  | (n, u) :: r, m, cm, x, v, hn, h => by
    rw [List.map_cons, List.nodup_cons] at hn
    rcases List.mem_cons.mp h with e | h
    · cases e
      unfold bindL bindC
      rw [bindL_get hn.1, bindC_get hn.1]
      exact ⟨fun e => by rw [if_pos e, if_pos rfl], fun e => by rw [if_neg e, if_pos rfl]⟩
    · unfold bindL bindC
      exact bind_at hn.2 h
theorem zip_at {ns : List Str} {r : Va} {vs : List AV} {vs' : List Value} (x : VRs r vs vs') : ∀ {i : Nat} {v : AV} {n : Str}, at? vs i = some v → ns[i]? = some n → ∃ v', (n, v') ∈ ns.zip vs' ∧ VR r v v' := by
  intro i v n h hn
  obtain ⟨v', h1, h2⟩ := x.at h
  refine ⟨v', List.mem_iff_getElem?.mpr ⟨i, ?_⟩, h2⟩
  rw [List.getElem?_zip_eq_some]
  exact ⟨hn, h1⟩
theorem zip_nodup : ∀ {ns : List Str} {vs : List Value}, ns.Nodup → ((ns.zip vs).map (·.1)).Nodup
  | [], _, _ => by simp
  | _ :: _, [], _ => by simp
  | n :: r, v :: q, h => by
    rw [List.nodup_cons] at h
    rw [List.zip_cons_cons, List.map_cons, List.nodup_cons]
    refine ⟨fun hm => ?_, zip_nodup h.2⟩
    obtain ⟨p, hp, e⟩ := List.mem_map.mp hm
    have e' : p.1 = n := e
    exact h.1 (e' ▸ (List.of_mem_zip (a := p.1) (b := p.2) hp).1)
theorem fn_snd {f : Addr} {np nl lev : Nat} {b : Sb} {es : List PySem.Stmt} {ns : List Str} {name qual : Str} {params : Arguments} {scope : Scope} {dV kV doc pm cdv ct oc : Value} {an od : Option Addr} {osl : Array (Option Value)}
    (hb : SndB w mg mb means ⟨ns, qual, scope, none, false, lev⟩ b es) (hns : ns.Nodup)
    (ho : (hd.heap_1 w.params).lookup f = some ⟨oc, od, .func (fnOf name qual params es scope dV kV doc pm an cdv ct), osl⟩) (hcd : codeIn (hd.heap_1 w.params) cdv qual = true)
    (hbind : ∀ (s : Shared) (vals : List Value), vals.length = np → BindsTo s (fnOf name qual params es scope dV kV doc pm an cdv ct) ⟨vals, []⟩ (ns.zip vals))
    (hkind : ∀ x ∈ ns, scope.names.lookup x = some .local ∨ (scope.names.lookup x = some .cell ∧ ∀ L, ((cellsFrom (L + 1) scope.names []).lookup x).isSome = true))
    (hnd : ((cellsFrom 0 scope.names []).map (·.1)).Nodup) (hap : ∀ L, ((cellsFrom (L + 1) scope.names []).map (·.2)).Nodup)
    (hnp : np ≤ ns.length) (hco : scope.isCoroutine = false) (hgen : scope.isGenerator = false) (hk : scope.kind = .function) : SndF w mg mb means f np lev (callF nl b) := by
  intro C D r s h t vs vs' k kr Q E G hlev hhd hlen hkk I hv kq ke
  refine Inv.el I fun gg m cells news Gg F N Co => ?_
  have hvl := hv.length
  refine wpAny_call (enter_T (all := cells ++ (news ++ D.ext)) G Gg F N ho hcd (by have := G.dp; omega) (hbind _ _ (by rw [hvl, hlen])) ?_ hnd (fun g L' h₁ tk cf FG st F' N' Y hlt hlt2 B' K' => ?_) hco hgen hk)
  · refine List.all_eq_true.mpr fun y hy => ?_
    rcases hkind y.1 (List.of_mem_zip hy).1 with e | ⟨e, _⟩ <;> rw [e] <;> decide
  let Cf : Cx := ⟨ns, qual, scope, none, false, lev⟩
  let Df : Dy := { dp := D.dp + 1, un := D.un + 3, gd := D.gd, L := L', a := f, ccd := cdv, outer := fenv C D :: D.outer, A₀ := C.A D, base := D.base, g := g, gs := D.gs, d := D.d, os := D.os, ext := cells ++ D.ext, cm := none, hd := D.hd, sa := D.sa }
  have Gf : Good w mg mb means Cf Df := ⟨hk, hns, (by have := G.dp; show D.dp + 1 + lev < _; omega), (by have := G.un; show D.un + 3 + 16 * lev < _; omega), G.XB, G.TB, fun _ => G.hd hhd, trivial, G.sl⟩
  have hp : (cf ++ (cells ++ (news ++ D.ext))).Perm (cf ++ (news ++ (cells ++ D.ext))) := List.Perm.append_left _ (List.perm_append_comm_assoc _ _ _)
  have hcfk := cells_keys Y
  have hkk2 : ∀ x, (envOfC qual scope L' f cdv).kindOf x = scope.names.lookup x := fun _ => rfl
  have hzn := zip_nodup (vs := vs') hns
  have If : Inv w Cf Df r ⟨padL vs nl, .none, s.objs, s.nx⟩ h₁ := by
    refine ⟨g, _, cf, news, ⟨KtsTurn.refl, B', K'⟩, F', fun p hq => N' p (hp.mem_iff.mpr hq), ⟨(hp.map (·.1)).nodup_iff.mp ?_, Co.led, Co.new, fun i v hi => ?_, fun _ e => (by cases e), fun x c hx => ?_, Co.scr⟩⟩
    · rw [List.map_append, List.nodup_append]
      refine ⟨by rw [hcfk]; exact hap L', Co.nd, fun a ha b hb e => ?_⟩
      obtain ⟨p, hp, rfl⟩ := List.mem_map.mp ha
      obtain ⟨q, hq, rfl⟩ := List.mem_map.mp hb
      have h1 := hlt p hp
      have h2 := hlt2 q hq
      rw [e] at h1
      exact absurd (Nat.lt_trans h1 h2) (Nat.lt_irrefl _)
    · have hi' := padL_get (get_at hi)
      have hil : i < ns.length := by
        have : i < vs.length := by
          obtain ⟨v', h1, _⟩ := hv.at hi'
          have := (List.getElem?_eq_some_iff.mp h1).1
          omega
        omega
      obtain ⟨v', hm, hvr⟩ := zip_at (ns := ns) hv hi' (List.getElem?_eq_getElem hil)
      obtain ⟨b1, b2⟩ := bind_at (ko := (envOfC qual scope L' f cdv).kindOf) (m := fun _ => none) (cm := fun _ => none) hzn hm
      refine ⟨_, v', List.getElem?_eq_getElem hil, hvr, ?_⟩
      rcases hkind _ (List.getElem_mem hil) with e | ⟨e, e2⟩
      · exact .inl ⟨e, b1 e⟩
      · obtain ⟨c, hc⟩ := Option.isSome_iff_exists.mp (e2 L')
        obtain ⟨o, a1, a2⟩ := cells_get Y hc
        refine .inr ⟨e, c, o, hc, a1, ?_⟩
        rw [a2, b2 (by rw [hkk2, e]; decide)]
    · obtain ⟨o, a1, a2⟩ := cells_get Y hx
      exact ⟨o, _, a1, a2⟩
  have back_inv : ∀ r' s' h', r.Le r' → Inv w Cf Df r' s' h' → Inv w C D r' (back s s') h' := by
    rintro r' s' h' l ⟨g', m', cf', news', Gg', F'', N'', Co'⟩
    obtain ⟨g₂, G₂, F₂, hq⟩ := leave_T (m := m) Gg FG st Gg'.T F''.keep
    have hp' : (news' ++ (cells ++ D.ext)).Perm (cells ++ (news' ++ D.ext)) := List.perm_append_comm_assoc _ _ _
    have hs : (news' ++ (cells ++ D.ext)).Sublist (cf' ++ (news' ++ (cells ++ D.ext))) := List.sublist_append_right _ _
    refine ⟨g₂, m, cells, news', G₂, F₂, fun p hm => ?_, ⟨?_, Co'.led, Co'.new, fun i v hi => (Co.slot i v hi).mono l, fun k hk => (Co.cv k hk).mono l, Co.cell, l _ _ Co.scr⟩⟩
    · have z := N'' p (hs.subset (hp'.mem_iff.mpr hm))
      exact ⟨z.1, hq _ z.2.2⟩
    · exact (hp'.map (·.1)).nodup_iff.mp ((hs.map (·.1)).nodup Co'.nd)
  refine hb Df r _ h₁ tk _ _ _ _ _ Gf hkk If ⟨fun r' s' h' t' l hk' I' => ?_, fun r' v s' v' h' t' l hk' I' hv' => ?_⟩ fun r' v s' v' h' t' l hk' X => ?_
  · exact kq r' .none (back s s') .none h' t' l hk' (back_inv r' s' h' l I') rfl
  · exact kq r' v (back s s') v' h' t' l hk' (back_inv r' s' h' l I') hv'
  · refine leave_fly (Df := Df) (R := fun r s' => match r with | .ok (.ret v) => Q v s' | .ok _ => False | .error e => E e s') rfl rfl rfl rfl rfl Gg FG st Co l X fun h₂ t₂ X₂ => ke r' v (back s s') v' h₂ t₂ l hk' X₂
end
section
variable {w : World} {mg mb : Str → Option Value} {means : ExcName → Option Value} {C : Cx} {D : Dy}
theorem evs_len : ∀ (as : List Sx) (s : St) (k : KL) (kr : KV), evs as s k kr = evs as s (fun vs s => ifO (Nat.beq vs.length as.length) (k vs s)) kr
  | [], s, k, kr => rfl
  | x :: r, s, k, kr => by
    show x s (fun v s => evs r s (fun vs s => k (v :: vs) s) kr) kr = x s (fun v s => evs r s (fun vs s => ifO (Nat.beq (vs.length + 1) (r.length + 1)) (k (v :: vs) s)) kr) kr
    congr 1
    funext v s
    exact evs_len r s (fun vs s => k (v :: vs) s) kr
theorem snd_call {f : Addr} {np lev : Nat} {B : List AV → Sx} {as : List Sx} {e : PySem.Expr} {es : List PySem.Expr} {nm : Str} {p pos : Pos} (hF : SndF w mg mb means f np lev B) (hlev : Nat.blt lev C.lev = true) (hh : C.hdl = false) (gf : GF w.params nm f) (hko : kOf C nm = some .globalImplicit) (hdb : (nm == ("__debug__" : Str)) = false)
    (hn : as.length = np) (has : SndXs w mg mb means C as (e :: es)) (he : ∀ env, starEach (e :: es) env = (false, eval e env) :: starEach es env) (hplain : ∀ pos env, (backTo pos (starEach es env)).any (·.1) = false) :
    SndX w mg mb means C (fun s k kr => evs as s (fun vs s => B vs s k kr) kr) (.Call (.Name nm p) (e :: es) [] pos) := by
  intro D r s h t k kr Q E G hk I kq ke
  have hk := (evs_len as s (fun vs s => B vs s k kr) kr).symm.trans hk
  have I' := I
  refine Inv.el I fun g m cells news Gg F N Co => ?_
  refine Call_ (rd_glo G Gg F gf hko hdb (callWith_K (Gg.top G).1 gf.hC ?_ (he _) (hplain _ _))) rfl
  refine has pos D r s h t _ kr _ E G hk I' (fun r₁ vs s₁ vs' h₁ t₁ l₁ hk₁ I₁ hvs => ?_) ke
  obtain ⟨hl, hk₁⟩ := ifO_some hk₁
  have hl' := Nat.eq_of_beq_eq_true hl
  refine ⟨?_, ?_⟩
  · refine Inv.el I₁ fun g₁ m₁ cells₁ news₁ Gg₁ F₁ N₁ Co₁ => ?_
    exact (Gg₁.top G).1.keeps F₁.keep
  · exact hF C D r₁ s₁ h₁ t₁ vs vs' k kr Q E G (by rw [Nat.blt_eq] at hlev; exact hlev) hh (by rw [hl', hn]) hk₁ I₁ hvs (fun r₂ u s₂ u' h₂ t₂ l₂ => kq r₂ u s₂ u' h₂ t₂ (l₁.trans l₂)) fun r₂ v₂ s₂ v₂' h₂ t₂ l₂ => ke r₂ v₂ s₂ v₂' h₂ t₂ (l₁.trans l₂)
theorem snd_call0 {f : Addr} {lev : Nat} {B : List AV → Sx} {nm : Str} {p pos : Pos} (hF : SndF w mg mb means f 0 lev B) (hlev : Nat.blt lev C.lev = true) (hh : C.hdl = false) (gf : GF w.params nm f) (hko : kOf C nm = some .globalImplicit) (hdb : (nm == ("__debug__" : Str)) = false) :
    SndX w mg mb means C (fun s k kr => evs [] s (fun vs s => B vs s k kr) kr) (.Call (.Name nm p) [] [] pos) := by
  intro D r s h t k kr Q E G hk I kq ke
  have I' := I
  refine Inv.el I fun g m cells news Gg F N Co => ?_
  refine Call_ (rd_glo G Gg F gf hko hdb (callWith_K0 (s := ⟨h, D.gs, D.d, t, D.os⟩) ((Gg.top G).1.keeps F.keep) gf.hC ?_)) rfl
  exact hF C D r s h t [] [] k kr Q E G (by rw [Nat.blt_eq] at hlev; exact hlev) hh rfl hk I' .nil kq ke
end
theorem n_kind : Str.ofString "kind" = mkS (attrL 0) := by decide +kernel
theorem n_items : Str.ofString "items" = mkS (attrL 1) := by decide +kernel
theorem n_attrs : Str.ofString "attrs" = mkS (attrL 2) := by decide +kernel
theorem n_shared : Str.ofString "shared" = mkS (attrL 3) := by decide +kernel
theorem n_loose : Str.ofString "loose" = mkS (attrL 4) := by decide +kernel
theorem n_name : Str.ofString "name" = mkS (attrL 5) := by decide +kernel
theorem n_tags : Str.ofString "tags" = mkS (attrL 6) := by decide +kernel
theorem n_code : Str.ofString "code" = mkS (attrL 7) := by decide +kernel
theorem n_formals : Str.ofString "formals" = mkS (attrL 8) := by decide +kernel
theorem n_body : Str.ofString "body" = mkS (attrL 9) := by decide +kernel
theorem n_env : Str.ofString "env" = mkS (attrL 10) := by decide +kernel
theorem n_number : Str.ofString "number" = mkS (attrL 11) := by decide +kernel
theorem n_parent : Str.ofString "parent" = mkS (attrL 12) := by decide +kernel
theorem n_frame : Str.ofString "frame" = mkS (attrL 13) := by decide +kernel
theorem n_locked : Str.ofString "locked" = mkS (attrL 14) := by decide +kernel
theorem n_locks : Str.ofString "locks" = mkS (attrL 15) := by decide +kernel
theorem n_message : Str.ofString "message" = mkS (attrL 16) := by decide +kernel
theorem aok_314_0 (P : Params) : AOk P 314 0 := ⟨by decide, n_kind ▸ ao_314_kind P, n_kind ▸ tk_314_kind P⟩
theorem aok_314_1 (P : Params) : AOk P 314 1 := ⟨by decide, n_items ▸ ao_314_items P, n_items ▸ tk_314_items P⟩
theorem aok_314_2 (P : Params) : AOk P 314 2 := ⟨by decide, n_attrs ▸ ao_314_attrs P, n_attrs ▸ tk_314_attrs P⟩
theorem aok_314_3 (P : Params) : AOk P 314 3 := ⟨by decide, n_shared ▸ ao_314_shared P, n_shared ▸ tk_314_shared P⟩
theorem aok_314_4 (P : Params) : AOk P 314 4 := ⟨by decide, n_loose ▸ ao_314_loose P, n_loose ▸ tk_314_loose P⟩
theorem aok_285_0 (P : Params) : AOk P 285 0 := ⟨by decide, n_kind ▸ ao_285_kind P, n_kind ▸ tk_285_kind P⟩
theorem aok_285_2 (P : Params) : AOk P 285 2 := ⟨by decide, n_attrs ▸ ao_285_attrs P, n_attrs ▸ tk_285_attrs P⟩
theorem aok_335_0 (P : Params) : AOk P 335 0 := ⟨by decide, n_kind ▸ ao_335_kind P, n_kind ▸ tk_335_kind P⟩
theorem aok_335_5 (P : Params) : AOk P 335 5 := ⟨by decide, n_name ▸ ao_335_name P, n_name ▸ tk_335_name P⟩
theorem aok_335_2 (P : Params) : AOk P 335 2 := ⟨by decide, n_attrs ▸ ao_335_attrs P, n_attrs ▸ tk_335_attrs P⟩
theorem aok_357_0 (P : Params) : AOk P 357 0 := ⟨by decide, n_kind ▸ ao_357_kind P, n_kind ▸ tk_357_kind P⟩
theorem aok_357_1 (P : Params) : AOk P 357 1 := ⟨by decide, n_items ▸ ao_357_items P, n_items ▸ tk_357_items P⟩
theorem aok_357_6 (P : Params) : AOk P 357 6 := ⟨by decide, n_tags ▸ ao_357_tags P, n_tags ▸ tk_357_tags P⟩
theorem aok_357_2 (P : Params) : AOk P 357 2 := ⟨by decide, n_attrs ▸ ao_357_attrs P, n_attrs ▸ tk_357_attrs P⟩
theorem aok_357_7 (P : Params) : AOk P 357 7 := ⟨by decide, n_code ▸ ao_357_code P, n_code ▸ tk_357_code P⟩
theorem aok_379_0 (P : Params) : AOk P 379 0 := ⟨by decide, n_kind ▸ ao_379_kind P, n_kind ▸ tk_379_kind P⟩
theorem aok_379_8 (P : Params) : AOk P 379 8 := ⟨by decide, n_formals ▸ ao_379_formals P, n_formals ▸ tk_379_formals P⟩
theorem aok_379_9 (P : Params) : AOk P 379 9 := ⟨by decide, n_body ▸ ao_379_body P, n_body ▸ tk_379_body P⟩
theorem aok_379_10 (P : Params) : AOk P 379 10 := ⟨by decide, n_env ▸ ao_379_env P, n_env ▸ tk_379_env P⟩
theorem aok_379_2 (P : Params) : AOk P 379 2 := ⟨by decide, n_attrs ▸ ao_379_attrs P, n_attrs ▸ tk_379_attrs P⟩
theorem aok_401_0 (P : Params) : AOk P 401 0 := ⟨by decide, n_kind ▸ ao_401_kind P, n_kind ▸ tk_401_kind P⟩
theorem aok_401_11 (P : Params) : AOk P 401 11 := ⟨by decide, n_number ▸ ao_401_number P, n_number ▸ tk_401_number P⟩
theorem aok_401_12 (P : Params) : AOk P 401 12 := ⟨by decide, n_parent ▸ ao_401_parent P, n_parent ▸ tk_401_parent P⟩
theorem aok_401_2 (P : Params) : AOk P 401 2 := ⟨by decide, n_attrs ▸ ao_401_attrs P, n_attrs ▸ tk_401_attrs P⟩
theorem aok_401_13 (P : Params) : AOk P 401 13 := ⟨by decide, n_frame ▸ ao_401_frame P, n_frame ▸ tk_401_frame P⟩
theorem aok_401_14 (P : Params) : AOk P 401 14 := ⟨by decide, n_locked ▸ ao_401_locked P, n_locked ▸ tk_401_locked P⟩
theorem aok_401_15 (P : Params) : AOk P 401 15 := ⟨by decide, n_locks ▸ ao_401_locks P, n_locks ▸ tk_401_locks P⟩
section
variable {w : World} {mg mb : Str → Option Value} {means : ExcName → Option Value} {C : Cx} {D : Dy}
theorem look_mem {α : Type} {k : Nat} {v : α} : ∀ {l : List (Nat × α)}, look k l = some v → ∃ p ∈ l, p.1 = k
  | [], h => by cases h
  | (j, u) :: r, h => by
    unfold look at h
    cases q : Nat.beq k j with
    | true => exact ⟨(j, u), .head _, (Nat.eq_of_beq_eq_true q).symm⟩
    | false =>
      rw [q] at h
      obtain ⟨p, a, b⟩ := look_mem (l := r) h
      exact ⟨p, .tail _ a, b⟩
theorem Good.top {C : Cx} {D : Dy} (G : Good w mg mb means C D) (hh : C.hdl = false) : C.A D = ktrTop D.dp D.un D.gd C.cn C.cs D.L D.a D.ccd (clF C D) D.outer := by unfold Cx.A; rw [G.hd hh]
theorem made_inst {r : Va} {s : St} {h' g : Heap} {m : Str → Option Value} {cells news : List (Addr × Obj)} {x dx : Addr} {ds : List DictEntry} {n c : Nat} {fs : List (Nat × AV)} (Gg : Gr D g) (F : Fr g D.L h' m) (N : News g D.L h' ((x, instObj c dx) :: (dx, dictOf ds n) :: (cells ++ (news ++ D.ext))))
    (hlt : ∀ p ∈ cells ++ (news ++ D.ext), p.1 < dx) (hlx : @LT.lt Nat _ dx x) (Co : Core w C D r s m cells news) (hd : ∀ r', r.Le r' → DR w.params r' (nmF fs) ds) (hl : ds.length ≤ 40) (hok : ∀ p ∈ fs, AOk w.params c p.1) :
    ∃ r', r.Le r' ∧ Inv w C D r' (put (.inst c fs) s) h' ∧ VR r' (.obj s.nx) (.ref x) := by
  obtain ⟨r', l, e, I⟩ := alloc_inv (l₁ := [(x, instObj c dx), (dx, dictOf ds n)]) (a := x) (d := dx) (o := .inst c fs) Gg F N (by
    show (x :: dx :: (cells ++ (news ++ D.ext)).map (·.1)).Nodup
    rw [List.nodup_cons, List.nodup_cons, List.mem_cons]
    refine ⟨?_, fun h => ?_, Co.nd⟩
    · rintro (h | h)
      · exact absurd h (Nat.ne_of_gt hlx)
      · obtain ⟨p, hp, e⟩ := List.mem_map.mp h
        exact absurd e (Nat.ne_of_lt (Nat.lt_trans (hlt p hp) hlx))
    · obtain ⟨p, hp, e⟩ := List.mem_map.mp h
      exact absurd e (Nat.ne_of_lt (hlt p hp))) Co fun r' l e => ⟨x, dx, ds, n, e, rfl, hd r' l, hl, fun k v hk => by obtain ⟨p, hp, e⟩ := look_mem hk; exact e ▸ hok p hp⟩
  exact ⟨r', l, I, x, dx, e, rfl⟩
theorem str_lit {r : Va} {x : Str} {t : Tok} {l : List Nat} (h : x = mkS l) : VR r (.str (.lit l)) (.str x t) := ⟨x, t, h, rfl⟩
theorem two {vs : List AV} (h : vs.length = 2) : ∃ a b, vs = [a, b] := by
  match vs, h with | [a, b], _ => exact ⟨a, b, rfl⟩
theorem one' {vs : List AV} (h : vs.length = 1) : ∃ a, vs = [a] := by
  match vs, h with | [a], _ => exact ⟨a, rfl⟩
theorem three {vs : List AV} (h : vs.length = 3) : ∃ a b c, vs = [a, b, c] := by
  match vs, h with | [a, b, c], _ => exact ⟨a, b, c, rfl⟩
theorem VRs.two {r : Va} {a b : AV} {vs' : List Value} (h : VRs r [a, b] vs') : ∃ a' b', vs' = [a', b'] ∧ VR r a a' ∧ VR r b b' := by
  cases h with | cons h1 h => cases h with | cons h2 h => cases h; exact ⟨_, _, rfl, h1, h2⟩
theorem VRs.one {r : Va} {a : AV} {vs' : List Value} (h : VRs r [a] vs') : ∃ a', vs' = [a'] ∧ VR r a a' := by
  cases h with | cons h1 h => cases h; exact ⟨_, rfl, h1⟩
theorem VRs.three {r : Va} {a b c : AV} {vs' : List Value} (h : VRs r [a, b, c] vs') : ∃ a' b' c', vs' = [a', b', c'] ∧ VR r a a' ∧ VR r b b' ∧ VR r c c' := by
  cases h with | cons h1 h => cases h with | cons h2 h => cases h with | cons h3 h => cases h; exact ⟨_, _, _, rfl, h1, h2, h3⟩
noncomputable abbrev mkB (c : Nat) : List AV → Sx := fun vs s k _ => make c vs s k

theorem k_NULL : Str.ofString "NULL" = mkS [78, 85, 76, 76] := by decide +kernel
theorem k_symbol : Str.ofString "symbol" = mkS [115, 121, 109, 98, 111, 108] := by decide +kernel
theorem k_language : Str.ofString "language" = mkS [108, 97, 110, 103, 117, 97, 103, 101] := by decide +kernel
theorem k_closure : Str.ofString "closure" = mkS [99, 108, 111, 115, 117, 114, 101] := by decide +kernel
theorem k_environment : Str.ofString "environment" = mkS [101, 110, 118, 105, 114, 111, 110, 109, 101, 110, 116] := by decide +kernel
theorem DR.ent {P : Params} {r : Va} {l es} {k : List Nat} {x : Str} {t : Tok} {a : AV} {v : Value} (e : x = mkS k) (h : VR r a v) (d : DR P r l es) : DR P r ((k, a) :: l) (⟨PyData.keyHash P x, .str x t, v⟩ :: es) := by subst e; exact .cons h d
theorem mkn_vec : SndF w mg mb means 314 2 3 (mkB 314) := by
  intro C D r s h t vs vs' k kr Q E G hlev hhd hlen hk I hv kq ke
  obtain ⟨a, b, rfl⟩ := two hlen
  obtain ⟨a', b', rfl, ha, hb⟩ := hv.two
  have hk : alloc (.inst 314 [(0, a), (1, b), (2, .none), (3, .bool false), (4, .bool false)]) s k = true := hk
  obtain ⟨hf, hka⟩ := alloc_some hk
  refine Inv.el I fun g m cells news Gg F N Co => ?_
  have hdp := G.dp
  have hun := G.un
  rw [G.top hhd]
  refine Ct.use (vec_ct w mg mb means (cells ++ (news ++ D.ext)) a' b') Gg.B F (Gg.top G).1 N (Gg.top G).2 (fun _ h => nomatch h) G.hk (by omega) (by omega) (fun p h => h) (fun rv l h' tk' ok F' N' => ?_)
  obtain ⟨x, dx, t0, t1, t2, t3, t4, rfl, rfl, hlt, hlx⟩ := ok
  obtain ⟨r', l, I', hvr⟩ := made_inst (fs := [(0, a), (1, b), (2, .none), (3, .bool false), (4, .bool false)]) Gg F' N' hlt hlx Co (fun r' l => .ent n_kind (ha.mono l) (.ent n_items (hb.mono l) (.ent n_attrs rfl (.ent n_shared rfl (.ent n_loose rfl (.nil)))))) (by simp) (fun p hp => by
    simp only [List.mem_cons, List.not_mem_nil, or_false] at hp
    rcases hp with rfl | rfl | rfl | rfl | rfl
    · exact aok_314_0 _
    · exact aok_314_1 _
    · exact aok_314_2 _
    · exact aok_314_3 _
    · exact aok_314_4 _)
  exact kq r' _ _ _ h' tk' l hka I' hvr
theorem mkn_nul : SndF w mg mb means 285 0 3 (mkB 285) := by
  intro C D r s h t vs vs' k kr Q E G hlev hhd hlen hk I hv kq ke
  obtain rfl := List.eq_nil_of_length_eq_zero hlen
  cases hv
  have hk : alloc (.inst 285 [(0, .str (.lit [78, 85, 76, 76])), (2, .none)]) s k = true := hk
  obtain ⟨hf, hka⟩ := alloc_some hk
  refine Inv.el I fun g m cells news Gg F N Co => ?_
  have hdp := G.dp
  have hun := G.un
  rw [G.top hhd]
  refine Ct.use (nul_ct w mg mb means (cells ++ (news ++ D.ext))) Gg.B F (Gg.top G).1 N (Gg.top G).2 (fun _ h => nomatch h) G.hk (by omega) (by omega) (fun p h => h) (fun rv l h' tk' ok F' N' => ?_)
  obtain ⟨x, dx, t0, t1, tk, rfl, rfl, hlt, hlx⟩ := ok
  obtain ⟨r', l, I', hvr⟩ := made_inst (fs := [(0, .str (.lit [78, 85, 76, 76])), (2, .none)]) Gg F' N' hlt hlx Co (fun r' l => .ent n_kind (str_lit k_NULL) (.ent n_attrs rfl (.nil))) (by simp) (fun p hp => by
    simp only [List.mem_cons, List.not_mem_nil, or_false] at hp
    rcases hp with rfl | rfl
    · exact aok_285_0 _
    · exact aok_285_2 _)
  exact kq r' _ _ _ h' tk' l hka I' hvr
theorem mkn_sym : SndF w mg mb means 335 1 3 (mkB 335) := by
  intro C D r s h t vs vs' k kr Q E G hlev hhd hlen hk I hv kq ke
  obtain ⟨a, rfl⟩ := one' hlen
  obtain ⟨a', rfl, ha⟩ := hv.one
  have hk : alloc (.inst 335 [(0, .str (.lit [115, 121, 109, 98, 111, 108])), (5, a), (2, .none)]) s k = true := hk
  obtain ⟨hf, hka⟩ := alloc_some hk
  refine Inv.el I fun g m cells news Gg F N Co => ?_
  have hdp := G.dp
  have hun := G.un
  rw [G.top hhd]
  refine Ct.use (sym_ct w mg mb means (cells ++ (news ++ D.ext)) a') Gg.B F (Gg.top G).1 N (Gg.top G).2 (fun _ h => nomatch h) G.hk (by omega) (by omega) (fun p h => h) (fun rv l h' tk' ok F' N' => ?_)
  obtain ⟨x, dx, t0, t1, t2, tk, rfl, rfl, hlt, hlx⟩ := ok
  obtain ⟨r', l, I', hvr⟩ := made_inst (fs := [(0, .str (.lit [115, 121, 109, 98, 111, 108])), (5, a), (2, .none)]) Gg F' N' hlt hlx Co (fun r' l => .ent n_kind (str_lit k_symbol) (.ent n_name (ha.mono l) (.ent n_attrs rfl (.nil)))) (by simp) (fun p hp => by
    simp only [List.mem_cons, List.not_mem_nil, or_false] at hp
    rcases hp with rfl | rfl | rfl
    · exact aok_335_0 _
    · exact aok_335_5 _
    · exact aok_335_2 _)
  exact kq r' _ _ _ h' tk' l hka I' hvr
theorem mkn_cal : SndF w mg mb means 357 2 3 (mkB 357) := by
  intro C D r s h t vs vs' k kr Q E G hlev hhd hlen hk I hv kq ke
  obtain ⟨a, b, rfl⟩ := two hlen
  obtain ⟨a', b', rfl, ha, hb⟩ := hv.two
  have hk : alloc (.inst 357 [(0, .str (.lit [108, 97, 110, 103, 117, 97, 103, 101])), (1, a), (6, b), (2, .none), (7, .none)]) s k = true := hk
  obtain ⟨hf, hka⟩ := alloc_some hk
  refine Inv.el I fun g m cells news Gg F N Co => ?_
  have hdp := G.dp
  have hun := G.un
  rw [G.top hhd]
  refine Ct.use (cal_ct w mg mb means (cells ++ (news ++ D.ext)) a' b') Gg.B F (Gg.top G).1 N (Gg.top G).2 (fun _ h => nomatch h) G.hk (by omega) (by omega) (fun p h => h) (fun rv l h' tk' ok F' N' => ?_)
  obtain ⟨x, dx, t0, t1, t2, t3, t4, tk, rfl, rfl, hlt, hlx⟩ := ok
  obtain ⟨r', l, I', hvr⟩ := made_inst (fs := [(0, .str (.lit [108, 97, 110, 103, 117, 97, 103, 101])), (1, a), (6, b), (2, .none), (7, .none)]) Gg F' N' hlt hlx Co (fun r' l => .ent n_kind (str_lit k_language) (.ent n_items (ha.mono l) (.ent n_tags (hb.mono l) (.ent n_attrs rfl (.ent n_code rfl (.nil)))))) (by simp) (fun p hp => by
    simp only [List.mem_cons, List.not_mem_nil, or_false] at hp
    rcases hp with rfl | rfl | rfl | rfl | rfl
    · exact aok_357_0 _
    · exact aok_357_1 _
    · exact aok_357_6 _
    · exact aok_357_2 _
    · exact aok_357_7 _)
  exact kq r' _ _ _ h' tk' l hka I' hvr
theorem mkn_clo : SndF w mg mb means 379 3 3 (mkB 379) := by
  intro C D r s h t vs vs' k kr Q E G hlev hhd hlen hk I hv kq ke
  obtain ⟨a, b, c, rfl⟩ := three hlen
  obtain ⟨a', b', c', rfl, ha, hb, hc⟩ := hv.three
  have hk : alloc (.inst 379 [(0, .str (.lit [99, 108, 111, 115, 117, 114, 101])), (8, a), (9, b), (10, c), (2, .none)]) s k = true := hk
  obtain ⟨hf, hka⟩ := alloc_some hk
  refine Inv.el I fun g m cells news Gg F N Co => ?_
  have hdp := G.dp
  have hun := G.un
  rw [G.top hhd]
  refine Ct.use (clo_ct w mg mb means (cells ++ (news ++ D.ext)) a' b' c') Gg.B F (Gg.top G).1 N (Gg.top G).2 (fun _ h => nomatch h) G.hk (by omega) (by omega) (fun p h => h) (fun rv l h' tk' ok F' N' => ?_)
  obtain ⟨x, dx, t0, t1, t2, t3, t4, tk, rfl, rfl, hlt, hlx⟩ := ok
  obtain ⟨r', l, I', hvr⟩ := made_inst (fs := [(0, .str (.lit [99, 108, 111, 115, 117, 114, 101])), (8, a), (9, b), (10, c), (2, .none)]) Gg F' N' hlt hlx Co (fun r' l => .ent n_kind (str_lit k_closure) (.ent n_formals (ha.mono l) (.ent n_body (hb.mono l) (.ent n_env (hc.mono l) (.ent n_attrs rfl (.nil)))))) (by simp) (fun p hp => by
    simp only [List.mem_cons, List.not_mem_nil, or_false] at hp
    rcases hp with rfl | rfl | rfl | rfl | rfl
    · exact aok_379_0 _
    · exact aok_379_8 _
    · exact aok_379_9 _
    · exact aok_379_10 _
    · exact aok_379_2 _)
  exact kq r' _ _ _ h' tk' l hka I' hvr
end
section
variable {w : World} {mg mb : Str → Option Value} {means : ExcName → Option Value} {C : Cx} {D : Dy}
theorem cases_all {f : AI → Bool} : ∀ {l : List AI}, cases f l = true → ∀ a ∈ l, f a = true
  | [], _, a, h => nomatch h
  | b :: r, hc, a, h => by
    unfold cases at hc
    split at hc
    · rcases List.mem_cons.mp h with rfl | h
      · assumption
      · exact cases_all hc a h
    · cases hc
noncomputable def okAI (m : Nat) : AI → Bool
  | .lit k => decide ((m : Int) = k)
  | .one l => decide ((m : Int) ∈ l)
  | _ => false
theorem parts_some {n : Nat} {x : Int} (hp : parts n ≠ []) (h0 : 0 ≤ x) (h1 : x < n) : ∃ a ∈ parts n, ∀ r, AIR r a x := by
  obtain ⟨m, rfl⟩ := Int.eq_ofNat_of_zero_le h0
  have hm : m < n := by omega
  have key : ∀ n : Fin 14, (parts n.1).isEmpty = false → ∀ m : Fin n.1, (parts n.1).any (okAI m.1) = true := by decide
  have big : ∀ n, 14 ≤ n → parts n = [] := by
    intro n hn
    unfold parts
    split <;> first | omega | rfl
  by_cases hn : n < 14
  · obtain ⟨a, ha, h⟩ := List.any_eq_true.mp (key ⟨n, hn⟩ (by simpa using hp) ⟨m, hm⟩)
    refine ⟨a, ha, fun r => ?_⟩
    cases a with
    | lit k => have h' : decide ((m : Int) = k) = true := h; exact of_decide_eq_true (p := (m : Int) = k) h'
    | one l => have h' : decide ((m : Int) ∈ l) = true := h; exact of_decide_eq_true (p := (m : Int) ∈ l) h'
    | sym i => cases h
    | nz i => cases h
  · exact absurd (big n (by omega)) hp
theorem take_some {b : Int} {s : St} {k : KV} {x : Int} (hk : take b s k = true) (h0 : 0 ≤ x) (h1 : x < b) :
    b ≤ 660 ∧ ((∃ a, k (.int a) s = true ∧ ∀ r, AIR r a x) ∨ ∃ a, k (.int a) ⟨s.loc, s.cv, s.objs, s.nx.succ⟩ = true ∧ ∀ r : Va, r s.nx = some (.num x) → AIR r a x) := by
  unfold take at hk
  split at hk
  · have hx : x.natAbs < 2 ^ 62 := by have : (Int.ofNat 660) = 660 := rfl; omega
    refine ⟨by decide, ?_⟩
    split at hk
    · exact .inr ⟨_, hk, fun r hr => ⟨hr, hx⟩⟩
    · split at hk
      · cases hk
      · rename_i h
        by_cases hz : x = 0
        · subst hz; exact .inl ⟨_, h, fun _ => rfl⟩
        · exact .inr ⟨_, hk, fun r hr => ⟨hr, hx, hz⟩⟩
  · refine ⟨by decide, .inl ?_⟩
    have hx : x = 0 ∨ x = 1 ∨ x = 2 := by have : (Int.ofNat 3) = 3 := rfl; omega
    split at hk
    · have := cases_all hk
      rcases hx with rfl | rfl | rfl
      · exact ⟨_, this _ (.head _), fun _ => by show (0 : Int) ∈ [0, 2]; decide⟩
      · exact ⟨_, this _ (.tail _ (.head _)), fun _ => rfl⟩
      · exact ⟨_, this _ (.head _), fun _ => by show (2 : Int) ∈ [0, 2]; decide⟩
    · have := cases_all hk
      rcases hx with rfl | rfl | rfl
      · exact ⟨_, this _ (.head _), fun _ => rfl⟩
      · exact ⟨_, this _ (.tail _ (.head _)), fun _ => rfl⟩
      · exact ⟨_, this _ (.tail _ (.tail _ (.head _))), fun _ => rfl⟩
  · rename_i n _ _
    split at hk
    · cases hk
    · rename_i hne
      have hp : parts n ≠ [] := hne
      have hn : n < 14 := by
        refine Nat.lt_of_not_le fun hn => hp ?_
        unfold parts
        split <;> first | omega | rfl
      refine ⟨by show ((n : Nat) : Int) ≤ 660; omega, .inl ?_⟩
      obtain ⟨a, ha, h⟩ := parts_some hp h0 h1
      exact ⟨a, cases_all hk a ha, h⟩
  · cases hk
theorem upd_self {i : Nat} {o : Ob} : ∀ {l : List (Nat × Ob)}, look i l = some o → upd i o l = l
  | [], h => by cases h
  | (j, u) :: r, h => by
    unfold look at h
    unfold upd
    cases q : Nat.beq i j with
    | true => rw [q] at h; cases h; rfl
    | false => rw [q] at h; dsimp only; rw [upd_self h]
theorem onState_some {v : AV} {s : St} {b : Bool} (h : onState v s b = true) : onObj v s (fun o => match o with | .state => b | _ => false) = true := h
theorem take_snd : SndF w mg mb means 562 2 2 takeB := by
  intro C D r s h t vs vs' k kr Q E G hlev hhd hlen hk I hv kq ke
  unfold takeB at hk
  split at hk
  · rename_i st b
    obtain ⟨a', b', rfl, ha, hb⟩ := hv.two
    obtain ⟨x₀, tb, hx₀, rfl⟩ := hb
    have hx₀ : x₀ = b := hx₀
    rw [hx₀]
    refine obj_el I ha (onState_some hk) fun i o g m cells pre l post a d q10 e2 e3 q13 e5 Gg F N Co hor hup => ?_
    subst q10
    subst q13
    split at e3
    · obtain ⟨a₁, d₁, S, e6, rfl, OK⟩ := hor
      rw [e5] at e6; cases e6
      have hb0 : 0 < b ∧ b ≤ 660 := by
        by_cases hb0 : 0 < b
        · exact ⟨hb0, (take_some e3 (Int.le_refl 0) hb0).1⟩
        · exfalso
          unfold take at e3
          split at e3
          · exact hb0 (by decide)
          · exact hb0 (by decide)
          · rename_i n _ _ _
            have : n = 0 := by have : ((n : Nat) : Int) = Int.ofNat n := rfl; omega
            subst this
            cases e3
          · cases e3
      have hp : (cells ++ ((pre ++ (S.led a d ++ post)) ++ D.ext)).Perm (S.led a d ++ (cells ++ (pre ++ (post ++ D.ext)))) := by
        simp only [List.append_assoc]
        exact (List.Perm.append_left cells (List.perm_append_comm_assoc pre _ _)).trans (List.perm_append_comm_assoc cells _ _)
      have hnd := (hp.map (·.1)).nodup_iff.mp Co.nd
      have hne : ∀ p ∈ cells ++ (pre ++ (post ++ D.ext)), p.1 ≠ a ∧ p.1 ≠ d := by
        intro p hm
        rw [List.map_append, List.nodup_append] at hnd
        exact ⟨fun e => hnd.2.2 a (.head _) p.1 (List.mem_map_of_mem (f := (·.1)) hm) e.symm, fun e => hnd.2.2 d (.tail _ (.head _)) p.1 (List.mem_map_of_mem (f := (·.1)) hm) e.symm⟩
      have hdp := G.dp
      have hun := G.un
      rw [G.top hhd]
      refine Ct.use (take_ct2 w mg mb means OK hb0.1 hb0.2 (fun p hp => (hne p hp).1) (fun p hp => (hne p hp).2)) Gg.B F (Gg.top G).1 N (Gg.top G).2 (fun _ h => nomatch h) G.hk (by omega) (by omega) (fun p h => hp.mem_iff.mpr h) (fun rv l h' tk' ok F' N' => ?_)
      obtain ⟨x, tx, S', rfl, h0, h1, OK', rfl⟩ := ok
      have hp' : (cells ++ ((pre ++ (StD.led S' a d ++ post)) ++ D.ext)).Perm (StD.led S' a d ++ (cells ++ (pre ++ (post ++ D.ext)))) := by
        simp only [List.append_assoc]
        exact (List.Perm.append_left cells (List.perm_append_comm_assoc pre _ _)).trans (List.perm_append_comm_assoc cells _ _)
      have hled := hup r .state _ (Va.Le.refl _) ⟨a, d, S', e5, rfl, OK'⟩
      rw [upd_self e2] at hled
      have I' : Inv w C D r s h' := ⟨g, m, cells, pre ++ (StD.led S' a d ++ post), Gg, F', fun p hm => N' p (hp'.mem_iff.mp hm), ⟨(hp'.map (·.1)).nodup_iff.mpr (by simpa [StD.led] using hnd), hled, Co.new, Co.slot, Co.cv, Co.cell, Co.scr⟩⟩
      rcases (take_some e3 h0 h1).2 with ⟨c, hc, hr⟩ | ⟨c, hc, hr⟩
      · exact kq r _ s _ h' tk' (Va.Le.refl _) hc I' ⟨x, tx, hr r, rfl⟩
      · obtain ⟨r', l, e, I₂⟩ := sym_inv (.num x) I'
        exact kq r' _ _ _ h' tk' l hc I₂ ⟨x, tx, hr r' e, rfl⟩
    · cases e3
  · cases hk
end
section
variable {w : World} {mg mb : Str → Option Value} {means : ExcName → Option Value} {C : Cx} {D : Dy}
theorem Inv.ext_objs {r : Va} {s : St} {h : Heap} {l₁ : List (Addr × Obj)} {a d : Addr} {o : Ob} (I : Inv w C { D with ext := l₁ ++ D.ext } r s h) (ho : ∀ r', r.Le r' → r' s.nx = some (.ad a d) → OR w r' s.nx o l₁) :
    ∃ r', r.Le r' ∧ r' s.nx = some (.ad a d) ∧ Inv w C D r' (put o s) h := by
  refine Inv.el I fun g m cells news Gg F N Co => ?_
  have hq : (l₁ ++ (cells ++ (news ++ D.ext))).Perm (cells ++ (news ++ (l₁ ++ D.ext))) :=
    (List.perm_append_comm_assoc l₁ cells _).trans (List.Perm.append_left cells (List.perm_append_comm_assoc l₁ news _))
  have hnd := (hq.map (·.1)).nodup_iff.mpr Co.nd
  have hs : (cells ++ (news ++ D.ext)).Sublist (cells ++ (news ++ (l₁ ++ D.ext))) := (List.Sublist.refl _).append ((List.Sublist.refl _).append (List.sublist_append_right _ _))
  exact alloc_inv (l₁ := l₁) ⟨Gg.T, Gg.B, Gg.K⟩ F (fun p h => N p (hq.mem_iff.mp h)) hnd ⟨(hs.map (·.1)).nodup Co.nd, Co.led, Co.new, Co.slot, Co.cv, Co.cell, Co.scr⟩ ho
theorem Inv.beside {r : Va} {s : St} {h' g : Heap} {m : Str → Option Value} {cells news l₁ : List (Addr × Obj)} (Gg : Gr D g) (F : Fr g D.L h' m) (N : News g D.L h' (l₁ ++ (cells ++ (news ++ D.ext)))) (nd : ((l₁ ++ (cells ++ (news ++ D.ext))).map (·.1)).Nodup) (Co : Core w C D r s m cells news) :
    Inv w C { D with ext := l₁ ++ D.ext } r s h' := by
  have hq : (l₁ ++ (cells ++ (news ++ D.ext))).Perm (cells ++ (news ++ (l₁ ++ D.ext))) :=
    (List.perm_append_comm_assoc l₁ cells _).trans (List.Perm.append_left cells (List.perm_append_comm_assoc l₁ news _))
  exact ⟨g, m, cells, news, ⟨Gg.T, Gg.B, Gg.K⟩, F, fun p hp => N p (hq.mem_iff.mpr hp), ⟨(hq.map (·.1)).nodup_iff.mp nd, Co.led, Co.new, Co.slot, Co.cv, Co.cell, Co.scr⟩⟩
theorem mkn_env : SndF w mg mb means 401 2 3 (mkB 401) := by
  intro C D r s h t vs vs' k kr Q E G hlev hhd hlen hk I hv kq ke
  obtain ⟨a, b, rfl⟩ := two hlen
  obtain ⟨a', b', rfl, ha, hb⟩ := hv.two
  have hk : alloc (.dict []) s (fun d s => fresh .opq s fun l s => alloc (.inst 401 [(0, .str (.lit [101, 110, 118, 105, 114, 111, 110, 109, 101, 110, 116])), (11, a), (12, b), (2, .none), (13, d), (14, .bool false), (15, l)]) s k) = true := hk
  obtain ⟨hf, hk⟩ := alloc_some hk
  have hk : alloc (.inst 401 [(0, .str (.lit [101, 110, 118, 105, 114, 111, 110, 109, 101, 110, 116])), (11, a), (12, b), (2, .none), (13, .obj s.nx), (14, .bool false), (15, .opq s.nx.succ)]) ⟨s.loc, s.cv, (s.nx, .dict []) :: s.objs, s.nx.succ.succ⟩ k = true := hk
  obtain ⟨hf, hka⟩ := alloc_some hk
  refine Inv.el I fun g m cells news Gg F N Co => ?_
  have hdp := G.dp
  have hun := G.un
  rw [G.top hhd]
  refine Ct.use (env_ct w mg mb means (cells ++ (news ++ D.ext)) a' b') Gg.B F (Gg.top G).1 N (Gg.top G).2 (fun _ h => nomatch h) G.hk (by omega) (by omega) (fun p h => h) (fun rv l h' tk' ok F' N' => ?_)
  obtain ⟨x, dx, fr, lk, o1, o2, t0, t1, t2, t3, t4, t5, t6, tk, rfl, rfl, hlt, hlx, hxf, hfl, hsys, hdo⟩ := ok
  have hlt2 : ∀ p ∈ cells ++ (news ++ D.ext), p.1 < fr := fun p hp => Nat.lt_trans (Nat.lt_trans (hlt p hp) hlx) hxf
  have lt3 : ∀ p ∈ cells ++ (news ++ D.ext), p.1 ≠ fr ∧ p.1 ≠ x ∧ p.1 ≠ dx := fun p hp => ⟨Nat.ne_of_lt (hlt2 p hp), Nat.ne_of_lt (Nat.lt_trans (hlt p hp) hlx), Nat.ne_of_lt (hlt p hp)⟩
  have I₁ : Inv w C { D with ext := [(fr, o1)] ++ ([(x, instObj 401 dx), (dx, envD w.params t0 t1 t2 t3 t4 t5 t6 tk a' b' fr lk)] ++ D.ext) } r s h' := by
    refine Inv.beside (D := D) (l₁ := [(fr, o1), (x, instObj 401 dx), (dx, envD w.params t0 t1 t2 t3 t4 t5 t6 tk a' b' fr lk)]) Gg F' (fun p hp => N' p (.tail _ hp)) ?_ Co
    show (fr :: x :: dx :: (cells ++ (news ++ D.ext)).map (·.1)).Nodup
    rw [List.nodup_cons, List.nodup_cons, List.nodup_cons, List.mem_cons, List.mem_cons, List.mem_cons]
    refine ⟨?_, ?_, fun h => ?_, Co.nd⟩
    · rintro (h | h | h)
      · exact absurd h (Nat.ne_of_gt hxf)
      · exact absurd h (Nat.ne_of_gt (Nat.lt_trans hlx hxf))
      · obtain ⟨p, hp, e⟩ := List.mem_map.mp h
        exact (lt3 p hp).1 e
    · rintro (h | h)
      · exact absurd h (Nat.ne_of_gt hlx)
      · obtain ⟨p, hp, e⟩ := List.mem_map.mp h
        exact (lt3 p hp).2.1 e
    · obtain ⟨p, hp, e⟩ := List.mem_map.mp h
      exact (lt3 p hp).2.2 e
  obtain ⟨r₁, l₁, e₁, I₂⟩ := Inv.ext_objs (D := { D with ext := [(x, instObj 401 dx), (dx, envD w.params t0 t1 t2 t3 t4 t5 t6 tk a' b' fr lk)] ++ D.ext }) (l₁ := [(fr, o1)]) (a := fr) (d := 0) (o := .dict []) I₁ fun r' _ e => ⟨fr, 0, o1, [], e, rfl, hdo, .nil, hsys, Nat.zero_le _⟩
  obtain ⟨r₂, l₂, e₂, I₃⟩ := sym_inv (.val (.ref lk)) I₂
  have le := l₁.trans l₂
  obtain ⟨r₃, l₃, e₃, I₄⟩ := Inv.ext_objs (a := x) (d := dx) (o := .inst 401 [(0, .str (.lit [101, 110, 118, 105, 114, 111, 110, 109, 101, 110, 116])), (11, a), (12, b), (2, .none), (13, .obj s.nx), (14, .bool false), (15, .opq s.nx.succ)]) I₃ fun r' l e => ⟨x, dx, _, _, e, rfl,
    .ent n_kind (str_lit k_environment) (.ent n_number (ha.mono (le.trans l)) (.ent n_parent (hb.mono (le.trans l)) (.ent n_attrs rfl (.ent n_frame ⟨fr, 0, (l₂.trans l) _ _ e₁, rfl⟩ (.ent n_locked rfl (.ent n_locks (l _ _ e₂) .nil)))))), by simp, fun k v hk => by
      obtain ⟨p, hp, e⟩ := look_mem hk
      subst e
      simp only [List.mem_cons, List.not_mem_nil, or_false] at hp
      rcases hp with rfl | rfl | rfl | rfl | rfl | rfl | rfl
      · exact aok_401_0 _
      · exact aok_401_11 _
      · exact aok_401_12 _
      · exact aok_401_2 _
      · exact aok_401_13 _
      · exact aok_401_14 _
      · exact aok_401_15 _⟩
  exact kq r₃ _ _ _ h' tk' (le.trans l₃) hka I₄ ⟨x, dx, e₃, rfl⟩
end
section
variable {w : World} {mg mb : Str → Option Value} {means : ExcName → Option Value} {C : Cx} {D : Dy}
theorem frames_weak {h base base' : Heap} (hb : ∀ L, base.get? L = none → base'.get? L = none) : ∀ {l : List Env}, h.FunFrames base l → h.FunFrames base' l
  | [], _ => trivial
  | _ :: _, ⟨a, ⟨L, o, b, c, d⟩, r⟩ => ⟨a, ⟨L, o, b, hb L c, d⟩, frames_weak hb r⟩
theorem frames_at {h h' base : Heap} : ∀ {l : List Env}, h.FunFrames base l → (∀ L ∈ l.filterMap (·.frame), ∀ o, h.get? L = some o → h'.get? L = some o) → h'.FunFrames base l
  | [], _, _ => trivial
  | env :: r', ⟨a, ⟨L, o, b, c, d, e⟩, r⟩, k => ⟨a, ⟨L, o, b, c, k L (List.mem_filterMap.mpr ⟨env, .head _, b⟩) o d, e⟩, frames_at r fun L' hL => k L' (by
    obtain ⟨env', he, hf⟩ := List.mem_filterMap.mp hL
    exact List.mem_filterMap.mpr ⟨env', .tail _ he, hf⟩)⟩
theorem mem_frames {b : Addr} (hm : b ∈ (fenv C D :: D.outer).filterMap (·.frame)) : b = D.L ∨ b ∈ D.fs := by
  obtain ⟨env, he, hf⟩ := List.mem_filterMap.mp hm
  rcases List.mem_cons.mp he with rfl | he
  · exact .inl (Option.some.inj hf).symm
  · exact .inr (List.mem_filterMap.mpr ⟨env, he, hf⟩)
theorem comp_err {c : CmpS} {r' : Va} {mv : AV} {s₂ : St} {v' : Value} {h₂ : Heap} {t₂ : Nat} {I Da Cb : Addr} {oI' oa oC : Obj} {v₀ : Value} {Q E : Value → Shared → Prop} (hD : D.cm = none)
    (X : Fly w (C.in c) { D.e3 I oI' Da oa Cb oC with cm := some ⟨Cb, v₀⟩ } r' mv s₂ v' h₂) (ho : ∃ m₂, LCg.NsObj oC m₂) (ke : ∀ h' t', Fly w C D r' mv s₂ v' h' → E v' ⟨h', D.gs, D.d, t', D.os⟩) :
    notedBy (model PG w) (C.A D) (compEnvC c.sc (c.clo D.L) Cb (fenv C D)) (fun e s' => compPost (model PG w) (C.A D) E none Q (.ref Da) Cb (.error e) s') v' ⟨h₂, D.gs, D.d, t₂, D.os⟩ := by
  obtain ⟨g, G, m, cells, news, e, d, od, rfl, Gg, F, U, ⟨B, b1, b2, b3, b4, b5, b6, b7⟩, nd, dr, Co⟩ := X
  obtain ⟨m₂, ho⟩ := ho
  show wpAny (model PG w) (C.A D) (noteFrame (.ref e) (fenv C D)) _ _ _
  refine noteD (s := ⟨h₂, D.gs, D.d, t₂, D.os⟩) (B := B) (h₀ := h₂) rfl rfl ⟨b4, b6, Heap.UpToSlots.refl h₂⟩ b5 b7 fun h₃ X₃ N₃ => ?_
  have memC : (Cb, oC) ∈ (d, od) :: (cells ++ (news ++ (I, oI') :: (Da, oa) :: (Cb, oC) :: D.ext)) := by simp
  obtain ⟨hCB, hCG⟩ := b3 (Cb, oC) memC
  dsimp only at hCB hCG
  refine ⟨m₂, ho.ns (X₃.stays _ _ hCB), fun h₄ hs cenv hcenv => ?_⟩
  have old : ∀ b o, b ≠ Cb → h₃.get? b = some o → h₄.get? b = some o := fun b o hb hq => (hs.2 b hb).trans hq
  have neG : ∀ b o, G.get? b = some o → b ≠ Cb := fun b o hq q => by rw [q, hCG] at hq; cases hq
  have hfs : ∀ L ∈ (fenv C D :: D.outer).filterMap (·.frame), L ≠ Cb := fun L hL => by
    rcases mem_frames hL with rfl | hL
    · obtain ⟨oL, _, _, hLg, _⟩ := F.ns
      exact neG _ _ hLg
    · obtain ⟨_, o, ho', _⟩ := Gg.B.frames.mem hL
      exact neG _ _ (F.keep _ _ ho')
  -- the base without the comprehension's block
  have hB' : ∀ b o, (hideAll B [Cb]).get? b = some o → B.get? b = some o := fun b o hq => of_hideAll _ hq
  have hB2 : ∀ b o, B.get? b = some o → b ≠ Cb → (hideAll B [Cb]).get? b = some o := fun b o hq hb => hideAll_get _ hq (by simpa using hb)
  have hBC : (hideAll B [Cb]).get? Cb = none := hideAll_none _ (.head _)
  have weak : ∀ b, B.get? b = none → (hideAll B [Cb]).get? b = none := fun b hb => by
    cases q : (hideAll B [Cb]).get? b with
    | none => rfl
    | some o => rw [hB' b o q] at hb; cases hb
  have X₄ : OverD (hideAll B [Cb]) (fenv C D :: D.outer) h₄ h₄ := ⟨fun b o hb => old b o (fun q => by rw [q, hBC] at hb; cases hb) (X₃.stays b o (hB' b o hb)), frames_at (frames_weak weak X₃.frames) fun L hL o hq => old L o (hfs L hL) hq, Heap.UpToSlots.refl h₄⟩
  obtain ⟨oe, vs, T, oT, ts, he, hcl, hdi, hd, h1, hnT, hTe, hT, hdT, h3⟩ := N₃
  have hCdict : ∀ vs, oC.data ≠ .fields vs := fun vs q => by obtain ⟨es, ep, hdd, _⟩ := ho; rw [hdd] at q; cases q
  have hC₃ := X₃.stays _ _ hCB
  have neE : e ≠ Cb := fun q => by rw [q, hC₃] at he; cases he; exact hCdict _ hd
  have neT : T ≠ Cb := fun q => by rw [q, hC₃] at hT; cases hT; exact hCdict _ hdT
  have he₄ := old e oe neE he
  have hT₄ := old T oT neT hT
  have hsz3 : 3 < ts.size := (Array.getElem?_eq_some_iff.mp h3).1
  unfold PySem.passOn
  refine wpAny_bind (wpAny_field he₄ hd h1 ?_)
  rw [if_neg (by simp)]
  refine wpAny_bind ?_
  unfold setFlight
  refine wpAny_bind (wpAny_field he₄ hd h1 ?_)
  rw [if_pos (show (Value.ref T != Value.none) = true from by simp)]
  refine wpAny_setField hT₄ hdT hsz3 (wpAny_throw (ke _ _ ?_))
  have X₅ := X₄.set (f := (·.setIfInBounds 3 (cenv.frame.elim Value.none fun f => rawInt f))) hT₄ hdT (weak T hnT)
  have hsub : ((d, od) :: (cells ++ (news ++ D.ext))).Sublist ((d, od) :: (cells ++ (news ++ (I, oI') :: (Da, oa) :: (Cb, oC) :: D.ext))) :=
    ((List.Sublist.refl _).append ((List.Sublist.refl _).append (((List.sublist_cons_self _ _).trans (List.sublist_cons_self _ _)).trans (List.sublist_cons_self _ _)))).cons_cons _
  have hsub2 : (cells ++ (news ++ D.ext)).Sublist (cells ++ (news ++ (I, oI') :: (Da, oa) :: (Cb, oC) :: D.ext)) :=
    (List.Sublist.refl _).append ((List.Sublist.refl _).append (((List.sublist_cons_self _ _).trans (List.sublist_cons_self _ _)).trans (List.sublist_cons_self _ _)))
  have nC : ∀ q ∈ (d, od) :: (cells ++ (news ++ D.ext)), q.1 ≠ Cb := by
    have hp : ((d, od) :: (cells ++ (news ++ (I, oI') :: (Da, oa) :: (Cb, oC) :: D.ext))).Perm ((Cb, oC) :: (I, oI') :: (Da, oa) :: (d, od) :: (cells ++ (news ++ D.ext))) := by
      have e1 : (d, od) :: (cells ++ (news ++ (I, oI') :: (Da, oa) :: (Cb, oC) :: D.ext)) = ((d, od) :: (cells ++ news)) ++ ([(I, oI'), (Da, oa)] ++ (Cb, oC) :: D.ext) := by simp
      have e2 : (Cb, oC) :: (I, oI') :: (Da, oa) :: (d, od) :: (cells ++ (news ++ D.ext)) = (Cb, oC) :: ([(I, oI'), (Da, oa)] ++ (((d, od) :: (cells ++ news)) ++ D.ext)) := by simp
      rw [e1, e2]
      refine (List.perm_append_comm_assoc _ _ _).trans ?_
      rw [← List.append_assoc]
      refine List.perm_middle.trans (.cons _ ?_)
      rw [List.append_assoc]
    have hn := (hp.map (·.1)).nodup_iff.mp nd
    rw [List.map_cons, List.nodup_cons] at hn
    exact fun q hq e => hn.1 (List.mem_map.mpr ⟨q, .tail _ (.tail _ hq), e⟩)
  refine ⟨g, G, m, cells, news, e, d, od, rfl, ⟨Gg.T, Gg.B, Gg.K⟩, F, fun b o hb hn => ?_, ⟨hideAll B [Cb], fun b o hb => hB2 b o (b1 b o hb) fun q => ?_, fun b o hb nf => hB2 b o (b2 b o hb nf) (neG b o hb), fun q hq => ⟨hB2 _ _ (b3 q (hsub.subset hq)).1 (nC q hq), (b3 q (hsub.subset hq)).2⟩, X₅.stays, weak e b5, X₅.frames, ?_⟩, (hsub.map (·.1)).nodup nd, dr,
    ⟨(hsub2.map (·.1)).nodup Co.nd, Co.led, Co.new, Co.slot, fun k hk => (by rw [hD] at hk; cases hk), Co.cell, Co.scr⟩⟩
  · obtain ⟨sl, e3⟩ := (U.trans X₃.up) b o hb hn
    refine ⟨sl, ?_⟩
    have q4 := old b _ (neG b o hb) e3
    exact (Heap.get?_update_other _ _ (Ne.symm (no_record hT₄ hdT b _ q4 hn))).trans q4
  · have := Gg.B.stays b o hb
    rw [q] at this
    have := F.keep _ _ this
    rw [hCG] at this; cases this
  · exact ⟨oe, vs, (Heap.get?_update_other _ _ hTe).trans he₄, hcl, hdi, hd, .inr ⟨T, _, _, h1, weak T hnT, hTe, Heap.get?_update_self _ hT₄ (Obj.isFreed_of_fields (Obj.data_mapFields hdT _)), Obj.data_mapFields hdT _, cenv.frame, by simp [hsz3]⟩⟩
theorem snd_compE {x y : Sx} {elt iter : PySem.Expr} {c : CmpS} {px pos : Pos} (O : CompOk C c iter) (hx : SndX w mg mb means (C.in c) x elt) (hy : SndX w mg mb means C y iter) : SndX w mg mb means C (xCompE x y) (.ListComp elt [⟨.Name c.x px, iter, [], 0⟩] c.sc pos) := by
  intro D r s h t k kr Q E G hk I kq ke
  rw [Good.env0 O.hc, eval_ListComp]
  refine wpAny_comprehension_free (use := none) rfl (O.fold D) (O.clos D) O.sc O.names ?_
  have := hy D r s h t _ kr (CompNext w C D c elt iter px pos (fun acc Cb => compPost (model PG w) (C.A D) E none Q acc Cb) E) E G hk I (fun r₁ v s₁ v' h₁ t₁ l₁ hk₁ I₁ hv => comp_list O hx G I₁ hv hk₁
    (fun r₂ s₂ h₂ t₂ v₂ a Cb oC m₂ l₂ hk₂ I₂ ho hv₂ => comp_post (v := v₂) I₂ ho fun h' I' => kq r₂ v₂ s₂ _ h' t₂ (l₁.trans l₂) hk₂ I' hv₂) fun r₂ mv s₂ v₂ h₂ t₂ _ _ _ _ _ _ _ l₂ hk₂ ho X => comp_err (G.cm0 O.hc) X ho fun h' t' X' => ke r₂ mv s₂ v₂ h' t' (l₁.trans l₂) hk₂ X') ke
  rw [Good.env0 O.hc] at this
  exact this
end
noncomputable abbrev refObj : Obj := excClassObj (Str.ofString "Refusal") (Str.ofString "Refusal") 75 74 [.ref 55] [.ref 55, .type "Exception", .type "BaseException", .type "object"] true [] [] false none none (some (.ref 59)) none (some (.str (Str.ofString "Refusal") 246)) (some (.str (Str.ofString "Refusal") 254)) (some (.bool true)) "Exception.__new__"
theorem ref_at (P : Params) : (hd.heap_1 P).lookup 75 = some refObj := by k_is
section
variable {w : World} {mg mb : Str → Option Value} {means : ExcName → Option Value} {C : Cx} {D : Dy}
theorem raise_own {M : Model} {A : Around} {env : Env} {s : Shared} {x : Sem Value} {Q : Flow → Shared → Prop} {E : Value → Shared → Prop} (hh : A.handled = none)
    (h : wpAny M A x (fun v s₁ => ∃ e oe vs, v = .ref e ∧ s₁.heap.get? 75 = some refObj ∧ s₁.heap.get? e = some oe ∧ oe.cls = .ref 75 ∧ oe.data = .fields vs ∧ vs[1]? = some .none ∧ E (.ref e) s₁) E s) :
    wpAny M A (raiseStmt env (some x) none) Q E s := by
  unfold raiseStmt
  refine wpAny_bind (wpAny_mono h (fun v s₁ h₁ => ?_) fun _ _ x => x)
  obtain ⟨e, oe, vs, rfl, hC, he, hc, hd, h1, hE⟩ := h₁
  obtain ⟨hp, g, d, tk, os⟩ := s₁
  obtain ⟨oc, od, odt, osl⟩ := oe
  dsimp only at hc hd hC he
  subst hc hd
  have hcB : (Value.ref 75 :: [Value.ref 55, .type "Exception", .type "BaseException", .type "object"]).contains (.type "BaseException") = true := by decide +kernel
  have tail : wpAny M A (do setFlight (.ref e) none; raiseNew (α := Flow) (.ref e)) Q E ⟨hp, g, d, tk, os⟩ := by
    refine wpAny_bind ?_
    unfold setFlight
    refine wpAny_bind (wpAny_field he rfl h1 ?_)
    rw [if_neg (by decide)]
    exact wpAny_pure (wpAny_raiseNew_none hh hE)
  have fl : wpAny M A (setFlight (.ref e) none) (fun _ s' => s' = ⟨hp, g, d, tk, os⟩) E ⟨hp, g, d, tk, os⟩ := by
    unfold setFlight
    refine wpAny_bind (wpAny_field he rfl h1 ?_)
    rw [if_neg (by decide)]
    exact wpAny_pure rfl
  repeat (first | with_reducible refine wpAny_loadPart_at he ?_ | with_reducible refine wpAny_loadPart_at hC ?_ | (with_reducible refine wpAny_isSubtype_exc hC ?_; rw [hcB]) | (with_reducible exact tail) | wp_step)
theorem frames_re {h h' base base' : Heap} : ∀ {l : List Env}, h.FunFrames base l → (∀ L ∈ l.filterMap (·.frame), base'.get? L = none ∧ ∀ o, h.get? L = some o → h'.get? L = some o) → h'.FunFrames base' l
  | [], _, _ => trivial
  | env :: r', ⟨a, ⟨L, o, b, c, d, e⟩, r⟩, k =>
    have z := k L (List.mem_filterMap.mpr ⟨env, .head _, b⟩)
    ⟨a, ⟨L, o, b, z.1, z.2 o d, e⟩, frames_re r fun L' hL => k L' (by
      obtain ⟨env', he, hf⟩ := List.mem_filterMap.mp hL
      exact List.mem_filterMap.mpr ⟨env', .tail _ he, hf⟩)⟩
theorem onExc_some {v : AV} {s : St} {f : AV → Bool} (h : onExc v s f = true) : onObj v s (fun o => match o with | .exc m => f m | _ => false) = true := h
theorem snds_raise {x : Sx} {e : PySem.Expr} {pos : Pos} (hh : C.hdl = false) (hx : SndX w mg mb means C x e) : SndS w mg mb means C (sRaise x) (.Raise (some e) none pos) := by
  intro D r s h t k kret kr Q E G hk I fq ke
  rw [arm_exec_Raise]
  refine wpAny_bind (wpAny_standAt ?_)
  refine raise_own (x := do let v ← eval e (C.env D); standAt pos; pure v) (G.hd hh) (wpAny_bind (hx D r s h t _ kr _ E G hk I (fun r₁ v s₁ v' h₁ t₁ l₁ hk₁ I₁ hv => wpAny_bind (wpAny_standAt (wpAny_pure ?_))) ke))
  refine obj_el I₁ hv (onExc_some hk₁) fun i o g m cells pre l post a d₀ q10 e2 e3 q13 e5 Gg F N Co hor hup => ?_
  subst q10
  subst q13
  split at e3
  · rename_i mv
    obtain ⟨e', d, oe, vs, od, e6, rfl, hc, hdi, hd, h1, hxd⟩ := hor
    rw [e5] at e6
    obtain ⟨rfl, rfl⟩ : a = e' ∧ d₀ = d := by cases e6; exact ⟨rfl, rfl⟩
    have hC : h₁.get? 75 = some refObj := F.keep _ _ ((Gg.top G).1 _ _ (ref_at w.params))
    have he := (N (a, oe) (mem3 (.head _)))
    refine ⟨a, oe, vs, rfl, hC, he.1, hc, hd, h1, ke r₁ mv _ (.ref a) h₁ t₁ l₁ e3 ?_⟩
    obtain ⟨FG, BG, st, _⟩ := groundX (s := ⟨h₁, D.gs, D.d, t₁, D.os⟩) (A := C.A D) (env := fenv C D) (R := fun _ _ => True) Gg.B F N rfl rfl G.hk
    dsimp only at FG BG st he
    obtain ⟨all, hall⟩ : ∃ all, cells ++ ((pre ++ ([(a, oe), (d₀, od)] ++ post)) ++ D.ext) = all := ⟨_, rfl⟩
    rw [hall] at N FG BG st
    have hperm : all.Perm ((a, oe) :: (d₀, od) :: (cells ++ ((pre ++ ([] ++ post)) ++ D.ext))) := by
      rw [← hall]
      have e1 : cells ++ ((pre ++ ([(a, oe), (d₀, od)] ++ post)) ++ D.ext) = (cells ++ pre) ++ ([(a, oe), (d₀, od)] ++ (post ++ D.ext)) := by simp
      have e2 : (a, oe) :: (d₀, od) :: (cells ++ ((pre ++ ([] ++ post)) ++ D.ext)) = [(a, oe), (d₀, od)] ++ ((cells ++ pre) ++ (post ++ D.ext)) := by simp
      rw [e1, e2]
      exact List.perm_append_comm_assoc _ _ _
    have hnd := (hperm.map (·.1)).nodup_iff.mp (hall ▸ Co.nd)
    rw [List.map_cons, List.nodup_cons] at hnd
    have inAll : ∀ q ∈ (d₀, od) :: (cells ++ ((pre ++ ([] ++ post)) ++ D.ext)), q ∈ all := fun q hq => hperm.mem_iff.mpr (.tail _ hq)
    have hne : ∀ q ∈ (d₀, od) :: (cells ++ ((pre ++ ([] ++ post)) ++ D.ext)), q.1 ≠ a := fun q hq z => hnd.1 (List.mem_map.mpr ⟨q, hq, z⟩)
    have gf : ∀ L ∈ (fenv C D :: D.outer).filterMap (·.frame), L = D.L ∨ ∃ o, g.get? L = some o := fun L hL => by
      rcases mem_frames hL with z | z
      · exact .inl z
      · obtain ⟨_, o, ho', _⟩ := Gg.B.frames.mem z
        exact .inr ⟨o, ho'⟩
    have nofr : ∀ q ∈ all, q.1 ∉ (fenv C D :: D.outer).filterMap (·.frame) := fun q hq hm => by
      rcases gf _ hm with z | ⟨o, z⟩
      · exact (N q hq).2.1 z
      · rw [(N q hq).2.2] at z; cases z
    have hB : ∀ b o, h₁.get? b = some o → b ≠ a → b ∉ (fenv C D :: D.outer).filterMap (·.frame) → (hideAll h₁ (a :: (fenv C D :: D.outer).filterMap (·.frame))).get? b = some o := fun b o hb h1 h2 => hideAll_get _ hb (by
      rw [List.mem_cons]; rintro (z | z)
      · exact h1 z
      · exact h2 z)
    refine ⟨g, _, m, cells, pre ++ ([] ++ post), a, d₀, od, rfl, Gg, FG, .of_keeps fun b o hb => of_hideAll _ hb, ⟨hideAll h₁ (a :: (fenv C D :: D.outer).filterMap (·.frame)), fun b o hb => ?_, fun b o hb nf => ?_, fun q hq => ⟨hB _ _ (N q (inAll q hq)).1 (hne q hq) (nofr q (inAll q hq)), hideAll_none _ (List.mem_map_of_mem (inAll q hq))⟩,
      fun b o hb => of_hideAll _ hb, hideAll_none _ (.head _), frames_re BG.frames fun L hL => ⟨hideAll_none _ (.tail _ hL), fun o ho => of_hideAll _ ho⟩, ⟨oe, vs, he.1, hc, hdi, hd, .inl h1⟩⟩, hnd.2, hxd,
      ⟨?_, hup r₁ .gone [] (Va.Le.refl _) rfl, Co.new, Co.slot, Co.cv, Co.cell, Co.scr⟩⟩
    · have gb := Gg.B.stays b o hb
      refine hB b o (F.keep _ _ gb) (fun q => ?_) fun hm => ?_
      · rw [q, he.2.2] at gb; cases gb
      · rw [(BG.frames.mem hm).1] at hb; cases hb
    · refine hB b o (of_hideAll _ hb) (fun q => ?_) nf
      rw [q, hideAll_none _ (List.mem_map.mpr ⟨(a, oe), hperm.mem_iff.mpr (.head _), rfl⟩)] at hb
      cases hb
    · have := hnd.2
      rw [List.map_cons, List.nodup_cons] at this
      exact this.2
  · cases e3
end
section
variable {prog : Program} {w : World} {A : Around} {E : Value → Shared → Prop} {h : Heap} {g : Array GenState} {d : Drawn} {t : Nat} {os : OsState}
variable {nm q : Str} {C N : Addr} {bs bm bmB : List Value} {hdct : Bool} {sn : List Str} {sub : List Value} {ab : Bool} {col : Option Bool} {dd : Option Addr} {k0 k1 k2 k3 k5 : Option Value} {B Bn newId nid initId inN : String} {bmN : List Value}
theorem type_call_own (Fn : ExcBaseFacts Bn newId inN bmN) (hBn : bmB.contains (.type Bn) = true) (F : ExcBaseFacts B nid initId bmB) (T : OwnTail h bmB bm) {mN : Str → Option Value} {rest : List Value} {fI : Addr} {oI : Obj} {Q : Fin → Shared → Prop}
    (hC : h.get? C = some (excClassObj nm q C N bs bm hdct sn sub ab col dd k0 k1 k2 k3 k5 newId)) (hn : h.Ns N mN) (hi : mN "__init__" = some (.ref fI)) (hfI : h.get? fI = some oI) (hfc : oI.cls = .type "function")
    (hq : ∀ h' e, Heap.MadeExcOf h h' e (.ref C) rest → wpAny (model prog w) A (call (.ref fI) (.ref e :: rest)) (fun r s' => r = .none ∧ Q (.done (.ret (.ref e))) s') E ⟨h', g, d, t, os⟩) (hrest : rest.length ≤ sizeLine) :
    wpAny (model prog w) A (Builtin.«type.__call__» ⟨.ref C :: rest, []⟩) Q E ⟨h, g, d, t, os⟩ := by
  repeat (first | with_reducible refine wpAny_loadPart_at hC ?_ | with_reducible refine wpAny_madeBy_exc hC ?_ | wp_step)
  refine codeAny_call_builtin_code (Code.quiet_builtin _ Fn.quiet) (wpAny_check_new_subU Fn hBn T hC ?_)
  refine codeAny_exc_new_subU Fn hBn F T hC ?_ hrest
  show wpAny _ _ _ _ _ _
  have up : ∀ b o, h.get? b = some o → ((h.push { cls := .type "tuple", data := .seq rest.toArray }).push { cls := .ref C, data := .fields #[.ref h.objs.size, .none, .none, .none, .bool false, .none] }).get? b = some o := fun b o e => Heap.get?_push_of_some _ (Heap.get?_push_of_some _ e)
  have hC₁ := up _ _ hC
  have hfI₁ := up _ _ hfI
  have hn₁ := hn.keeps up
  have hget : ((h.push { cls := .type "tuple", data := .seq rest.toArray }).push { cls := .ref C, data := .fields #[.ref h.objs.size, .none, .none, .none, .bool false, .none] }).get? (h.objs.size + 1) = some
      { cls := .ref C, data := .fields #[.ref h.objs.size, .none, .none, .none, .bool false, .none] } := by heap_get
  have hcC : (Value.ref C :: bm).contains (.ref C) = true := by simp
  have T₁ := T.keeps up
  unfold isInstance
  repeat (first | with_reducible refine wpAny_loadPart_at hget ?_ | (with_reducible refine wpAny_isSubtype_exc hC₁ ?_; rw [hcC]) | wp_step)
  show wpAny _ _ (typeLookup (.ref C) _) _ _ _
  refine wpAny_typeLookup_tail hC₁ hn₁ T₁ F.mroIs F.init.lookup ?_
  rw [hi]
  refine wpAny_holding (wpAny_bind ?_)
  unfold bindSpecial
  refine wpAny_bind (wpAny_typeOf (T := "function") ⟨_, hfI₁, hfc⟩ ?_)
  rw [if_pos (by decide)]
  refine wpAny_pure (wpAny_bind (wpAny_mono (hq _ (h.objs.size + 1) ⟨up, Heap.get?_none_of_le (Nat.le_succ _), h.objs.size, hget, Heap.get?_none_of_le (Nat.le_refl _), ?_⟩) (fun r s' hr => ?_) fun _ _ x => x))
  · exact Heap.get?_push_of_some _ (Heap.get?_push_at rfl rfl)
  · obtain ⟨rfl, hQ⟩ := hr
    wp_walk
    exact hQ
theorem call_own (Fn : ExcBaseFacts Bn newId inN bmN) (hBn : bmB.contains (.type Bn) = true) (F : ExcBaseFacts B nid initId bmB) (T : OwnTail h bmB bm) {mN : Str → Option Value} {rest : List Value} {fI : Addr} {oI : Obj} {Q : Value → Shared → Prop}
    (hC : h.get? C = some (excClassObj nm q C N bs bm hdct sn sub ab col dd k0 k1 k2 k3 k5 newId)) (hn : h.Ns N mN) (hi : mN "__init__" = some (.ref fI)) (hfI : h.get? fI = some oI) (hfc : oI.cls = .type "function")
    (hq : ∀ h' e, Heap.MadeExcOf h h' e (.ref C) rest → wpAny (model prog w) (A.under (.builtin "type.__call__" ⟨.ref C :: rest, []⟩)) (call (.ref fI) (.ref e :: rest)) (fun r s' => r = .none ∧ Q (.ref e) s') E ⟨h', g, d, t, os⟩) (hrest : rest.length ≤ sizeLine) :
    wpAny (model prog w) A (call (.ref C) rest) Q E ⟨h, g, d, t, os⟩ := by
  have f1 := tc_lookup
  have f2 := tc_bind (.ref C)
  have hT : (⟨h, g, d, t, os⟩ : Shared).TypeIs (.ref C) "type" := ⟨_, hC, rfl⟩
  refine wpAny_call (codeAny_of_tree ?_)
  show wpAny _ _ (callAny (.ref C) _) _ _ _
  repeat (any_goals (first | assumption | with_reducible refine wpAny_loadPart_at hC ?_ | wp_step))
  refine ⟨rfl, ?_⟩
  refine codeAny_call_builtin_at (Code.quiet_builtin _ (by decide +kernel)) entry_typeCall (wpAny_check_type_call_sub hC (type_call_own Fn hBn F T hC hn hi hfI hfc (fun h' e hm => ?_) hrest))
  exact hq h' e hm
end
section
variable {prog : Program} {w : World} {A : Around} {K : Frag} {s : Shared} {R : Result → Shared → Prop} {x : Addr}
open PySem.Builtin PySem.Builtin.ObjectAttr in
theorem refuse_ref (self : Value) : refuseLoop self "__setattr__" [.ref 75, .ref 55, .type "Exception", .type "BaseException", .type "object"] = pure () := by
  rw [refuseLoop_ref, refuseLoop_ref]; exact PySem.F.store_Exception.passes self
open PySem.Builtin PySem.Builtin.ObjectAttr in
theorem osa_ref {ox : Obj} {od : Option Obj} {name : Str} {tk : Tok} {v : Value} {cd : ClassData} (X : K.In s.heap) (I : InstAt s.heap x ox 75 od) (hc : clsIn K 75 = some cd) (hm : cd.mro = [.ref 75, .ref 55, .type "Exception", .type "BaseException", .type "object"]) (ht : takerIn K 75 name = some none)
    (h : ∀ b, wpAny (model prog w) A.in1 (storeInOwnDict (.ref x) (.ref 75) (.str name tk) name v b)
      (fun (fin : PySem.Fin) s' => match fin with | .done f => R (.ok f) s' | .again c' => c'.quiet = true ∧ codeAny (model prog w) A c' R s') (fun e s' => R (.error e) s') s) :
    codeAny (model prog w) A (.call (.builtin "object.__setattr__") ⟨[.ref x, .str name tk, v], []⟩) R s := by
  have SF := PySem.F.store_object
  have sub : Looks (model prog w) s.heap (isInstance (.ref x) (.type "object")) true := I.type.andThen (looks_mroIn X (by unfold mroIn; rw [hc, Option.bind_some, hm]; decide +kernel))
  refine codeAny_call_builtin SF.slot.plain SF.entry (@check_slot (model prog w) _ _ s "object.__setattr__" "object" "__setattr__" (.ref x) [.str name tk, v] [] _ SF.kind SF.split sub (SF.args (.ref x) (.str name tk) v) ?_)
  obtain ⟨attr, ha, hr⟩ := Option.bind_eq_some_iff.mp ht
  have hml : Looks (model prog w) s.heap (mroOf (.ref 75)) cd.mro := (looks_clsIn X hc).andThen .now
  have L3 : Looks (model prog w) s.heap (storeTaker? attr) none := by
    cases attr with
    | none => exact .now
    | some a =>
      obtain ⟨b, hb, hb'⟩ := Option.map_eq_some_iff.mp hr
      refine (looks_takesIn X hb).andThen ?_
      cases b with
      | false => exact .now
      | true => cases hb'
  rw [osa_eq, refuse_eq]
  refine wpAny_bind (wpAny_bind (I.type.here (wpAny_bind (hml.here ?_))))
  rw [hm, refuse_ref]
  refine wpAny_pure (wpAny_bind (I.type.here (wpAny_bind ((looks_findIn X ha).here (wpAny_bind (L3.here ?_))))))
  exact h _
open PySem.Builtin PySem.Builtin.ObjectAttr in
theorem store_first {E : Value → Shared → Prop} {h : Heap} {g : Array GenState} {d : Drawn} {t : Nat} {os : OsState} {ox : Obj} {name : Str} {v : Value} {cd : ClassData} {vs : Array Value} {Q : Unit → Shared → Prop} (X : K.In h) (hx : h.get? x = some ox) (hox : ox.cls = .ref 75) (hdn : ox.dict = none) (hdt : ox.data = .fields vs)
    (hc : clsIn K 75 = some cd) (hcd : cd.hasDict = true) (hm : cd.mro = [.ref 75, .ref 55, .type "Exception", .type "BaseException", .type "object"]) (ht : takerIn K 75 name = some none) (hs : findIn K (.ref 75) "__setattr__" = some (some (.builtin "object.__setattr__")))
    (hq : ∀ h' tk', (∀ b o, b ≠ x → h.get? b = some o → h'.get? b = some o) → h'.get? x = some { ox with dict := some h.objs.size } → h'.Ns1 h.objs.size (fun y => if y = name then some v else none) → Q () ⟨h', g, d, tk', os⟩) :
    wpAny (model prog w) A (setAttr (.ref x) name v) Q E ⟨h, g, d, t, os⟩ := by
  have I : InstAt h x ox 75 none := ⟨hx, hox, by unfold notCls; rw [hdt], by rw [hdn]; trivial⟩
  refine set_plain (s := ⟨h, g, d, t, os⟩) X I hs (osa_ref (s := ⟨h, g, d, t + 1, os⟩) X I hc hm ht fun b => ?_)
  obtain ⟨oc, od, odt, osl⟩ := ox
  dsimp only at hox hdn hdt
  subst hox hdn hdt
  refine wpAny_bind (wpAny_pure (wpAny_bind (wpAny_bind (wpAny_loadPart hx (wpAny_bind ((looks_clsIn X hc).here ?_))))))
  rw [hcd]
  rw [if_neg (by decide)]
  dsimp only
  rw [if_neg (by simp [typeHasDict])]
  have hx₁ : (h.push { cls := .type "dict", data := .dict #[] }).get? x = some { cls := Value.ref 75, data := Data.fields vs, slots := osl } := Heap.get?_push_of_some _ hx
  have hxs : x ≠ h.objs.size := Nat.ne_of_lt (Heap.lt_size hx)
  refine wpAny_bind (wpAny_alloc' ?_)
  refine wpAny_bind (wpAny_update' hx₁ ?_)
  refine wpAny_pure ?_
  generalize hU : ((h.push { cls := .type "dict", data := .dict #[] }).update x fun o => { cls := o.cls, dict := some h.objs.size, data := o.data, slots := o.slots }) = hu
  have hgd : hu.get? h.objs.size = some { cls := .type "dict", data := .dict #[] } := by
    rw [← hU]; exact (Heap.get?_update_ne _ _ _ _ hxs.symm).trans (Heap.get?_push_at rfl rfl)
  have hgx : hu.get? x = some { cls := Value.ref 75, dict := some h.objs.size, data := Data.fields vs, slots := osl } := by
    rw [← hU]; exact Heap.get?_update_self _ hx₁ rfl
  have hgo : ∀ b o, b ≠ x → h.get? b = some o → hu.get? b = some o := fun b o hb e => by
    rw [← hU]; exact (Heap.get?_update_ne _ _ _ _ hb).trans (Heap.get?_push_of_some _ e)
  have hnd : hu.Ns h.objs.size (fun _ => none) := ⟨_, #[], _, hgd, rfl, fun e he => absurd he (by simp), fun _ => rfl⟩
  show wpAny _ _ (storeInDict h.objs.size (.str name t) name v) _ _ _
  unfold storeInDict newKeyGuard
  refine wpAny_bind (wpAny_pure (wpAny_bind (wpAny_nsSet1 (Heap.Ns1.of_empty hnd) fun h' hn' hs' => ?_)))
  obtain ⟨oD, esD, epD, hoD, hdD, hcD⟩ := hn'.count (Within.cons name v Within.nil)
  refine wpAny_bind (wpAny_lookBehind hoD (by rw [hdD]; exact pastItsLine_dict (Nat.le_trans hcD (by rw [List.length_cons, List.length_nil, sizeLine_eq]; omega))) ?_)
  wp_walk
  exact hq h' _ (fun b o hb e => (hs'.2 b (Nat.ne_of_lt (Heap.lt_size e))).trans (hgo b o hb e)) ((hs'.2 x hxs).trans hgx) hn'
end
theorem ref_cd (P : Params) : ∃ cd, clsIn (hd.heap_1 P) 75 = some cd ∧ cd.hasDict = true ∧ cd.mro = [.ref 75, .ref 55, .type "Exception", .type "BaseException", .type "object"] := ⟨_, by k_is, rfl, rfl⟩
theorem ref_sa (P : Params) : findIn (hd.heap_1 P) (.ref 75) "__setattr__" = some (some (.builtin "object.__setattr__")) := by k_is
theorem ref_tk (P : Params) : takerIn (hd.heap_1 P) 75 (Str.ofString "message") = some none := by k_is
theorem ref_ns (P : Params) : nsOkIn (hd.heap_1 P) 74 = true := by kernel_rfl!
theorem ref_in (P : Params) : nsIn (hd.heap_1 P) 74 "__init__" = some (some (.ref 72)) := by k_is
theorem ref_tl (P : Params) : tailIn (hd.heap_1 P) [.type "Exception", .type "BaseException", .type "object"] [.ref 55, .type "Exception", .type "BaseException", .type "object"] = true := by kernel_rfl!
theorem ns_some {K : Frag} {h : Heap} {N : Addr} {mg : Str → Option Value} {n : Str} {v : Value} (X : K.In h) (G : h.Ns N mg) (e : nsIn K N n = some (some v)) : mg n = some v := by
  obtain ⟨o, es, ep, ho, hd, _, hf⟩ := G
  unfold nsIn at e
  split at e
  · rename_i c d es' n' sl q
    have := X _ _ q
    rw [ho] at this
    cases this
    cases hd
    split at e
    · rename_i en he
      cases e
      rw [← hf]
      unfold nsFind findBy
      rw [← Array.find?_toList, he]
      rfl
    · split at e <;> cases e
  · cases e
theorem lk_msg (e a' : Value) : List.lookup (Str.ofString "message") [(Str.ofString "self", e), (Str.ofString "message", a')].reverse = some a' := by
  show List.lookup (Str.ofString "message") [(Str.ofString "message", a'), (Str.ofString "self", e)] = some a'
  rw [List.lookup_cons, beq_self_eq_true]
theorem lk_self (e a' : Value) : List.lookup (Str.ofString "self") [(Str.ofString "self", e), (Str.ofString "message", a')].reverse = some e := by
  show List.lookup (Str.ofString "self") [(Str.ofString "message", a'), (Str.ofString "self", e)] = some e
  rw [List.lookup_cons, show (Str.ofString "self" == Str.ofString "message") = false by decide +kernel, List.lookup_cons, beq_self_eq_true]
section
variable {w : World} {mg mb : Str → Option Value} {means : ExcName → Option Value} {C : Cx} {D : Dy}
theorem mkn_exc : SndF w mg mb means 75 1 3 (mkB 75) := by
  intro C D r s h t vs vs' k kr Q E G hlev hhd hlen hk I hv kq ke
  obtain ⟨a, rfl⟩ := one' hlen
  obtain ⟨a', rfl, ha⟩ := hv.one
  have hk : alloc (.exc a) s k = true := hk
  obtain ⟨hf, hka⟩ := alloc_some hk
  refine Inv.el I fun g m cells news Gg F N Co => ?_
  have hdp := G.dp
  have hun := G.un
  obtain ⟨X, T⟩ := Gg.top G
  have Xh := X.keeps F.keep
  have hC : h.get? 75 = some refObj := Xh _ _ (ref_at w.params)
  have hn : h.Ns 74 (h.nsMap 74) := .of_isNs (isNs_of_in Xh (ref_ns w.params))
  have hi : h.nsMap 74 "__init__" = some (.ref 72) := ns_some Xh hn (ref_in w.params)
  have hT : OwnTail h [.type "Exception", .type "BaseException", .type "object"] [.ref 55, .type "Exception", .type "BaseException", .type "object"] := tail_of_in Xh (ref_tl w.params)
  obtain ⟨cd, hcd1, hcd2, hcd3⟩ := ref_cd w.params
  have main : ∀ {name qual : Str} {params : Arguments} {body : List PySem.Stmt} {scope : Scope} {dV kV doc pm cdv ct oc : Value} {an od : Option Addr} {osl : Array (Option Value)} {p1 p2 p3 p4 : Pos},
      (hd.heap_1 w.params).lookup 72 = some ⟨oc, od, .func (fnOf name qual params body scope dV kV doc pm an cdv ct), osl⟩ → codeIn (hd.heap_1 w.params) cdv qual = true → oc = .type "function" →
      (∀ s x y, BindsTo s (fnOf name qual params body scope dV kV doc pm an cdv ct) ⟨[x, y], []⟩ [(Str.ofString "self", x), (Str.ofString "message", y)]) →
      scope.names.lookup (Str.ofString "self") = some .local → scope.names.lookup (Str.ofString "message") = some .local → scope.isCoroutine = false → scope.isGenerator = false → scope.kind = .function → (∀ x ∈ scope.names, x.2 ≠ .cell) →
      body = [.Assign [.Attribute (.Name (Str.ofString "self") p1) (Str.ofString "message") p2] (.Name (Str.ofString "message") p3) p4] →
      wpAny (model PG w) (C.A D) (call (.ref 75) [a']) Q E ⟨h, D.gs, D.d, t, D.os⟩ := by
    intro name qual params body scope dV kV doc pm cdv ct oc an od osl p1 p2 p3 p4 ho hcdv hoc hb hl1 hl2 hco hgen hks hcell hbody
    refine call_own PySem.F.excBase_Exception (by decide +kernel) PySem.F.excBase_Exception hT hC hn hi (Xh _ _ ho) hoc (fun h' e hm => ?_) (by rw [sizeLine_eq]; simp)
    obtain ⟨tt, het, _, _⟩ := hm.there
    have F' : Fr g D.L h' m := ⟨F.ns.at' (fun o q => hm.keeps _ _ q), fun b o q => hm.keeps b o (F.keep b o q), F.above⟩
    have hold : ∀ b o, h.get? b = some o → b ≠ e := fun b o q z => by rw [z, hm.new] at q; cases q
    have neL : e ≠ D.L := fun z => by
      obtain ⟨oL, _, _, hL, _⟩ := F.ns
      exact hold _ _ hL z.symm
    have ng : g.get? e = none := kts_none F.keep hm.new
    have N' : News g D.L h' ((e, { cls := .ref 75, data := .fields #[.ref tt, .none, .none, .none, .bool false, .none] }) :: (cells ++ (news ++ D.ext))) := fun p hp => by
      rcases List.mem_cons.mp hp with rfl | hp
      · exact ⟨het, neL, ng⟩
      · exact ⟨hm.keeps _ _ (N p hp).1, (N p hp).2⟩
    refine wpAny_call (code_def (s := ⟨h', D.gs, D.d, t, D.os⟩) (env := fenv C D) (outer := D.outer) (A₀ := D.A₀) Gg.B F' X N' T rfl rfl G.hk ho hcdv (by show D.dp + 1 < _; omega) (hb _ _ _) (fun y hy => ?_) (fun g' L' h₁ FG F₂ N₂ B' X₂ T₂ => ?_) hco hgen hks hcell)
    · simp only [List.mem_cons, List.not_mem_nil, or_false] at hy
      rcases hy with rfl | rfl
      · exact hl1
      · exact hl2
    · subst hbody
      have z := N₂ _ (.head _)
      dsimp only at z
      refine wpAny_execs_cons (plainObj_wpAny_Assign_Attribute (nameX_L (cl := []) (s := ⟨h₁, D.gs, D.d, _, D.os⟩) F₂ (x := Str.ofString "message") (v := a') (lk_msg _ _) (nameX_L (cl := []) (s := ⟨h₁, D.gs, D.d, _, D.os⟩) F₂ (x := Str.ofString "self") (v := .ref e) (lk_self _ _) ?_ hks hl1) hks hl2) rfl)
      refine store_first (K := hd.heap_1 w.params) (X₂.keeps F₂.keep) z.1 rfl rfl rfl hcd1 hcd2 hcd3 (ref_tk _) (ref_sa _) fun h₂ tk₂ keep hx₂ hns => wpAny_execs_nil ?_
      obtain ⟨od', es', ep', hod, hdd', hkk', _, hff'⟩ := hns
      have ne₁ : ∀ b o, g'.get? b = some o → b ≠ e := fun b o q y => by rw [y, z.2.2] at q; cases q
      have neD : ∀ b o, h₁.get? b = some o → b ≠ h₁.objs.size := fun b o q => Nat.ne_of_lt (Heap.lt_size q)
      have F₃ : Fr g' L' h₂ _ := ⟨F₂.ns.at' (fun o q => keep _ o (Ne.symm z.2.1) q), fun b o q => keep b o (ne₁ b o q) (F₂.keep b o q), F₂.above⟩
      have neA : ∀ q ∈ cells ++ (news ++ D.ext), q.1 ≠ e := fun q hq => hold _ _ (N q hq).1
      have lt₁ : ∀ q ∈ cells ++ (news ++ D.ext), q.1 ≠ h₁.objs.size := fun q hq => neD _ _ (N₂ q (.tail _ hq)).1
      have neE : e ≠ h₁.objs.size := neD _ _ z.1
      have hL' : L' ≠ h₁.objs.size := by
        obtain ⟨oL, _, _, hL, _⟩ := F₂.ns
        exact neD _ _ hL
      refine ⟨L', _, [(e, { cls := .ref 75, dict := some h₁.objs.size, data := .fields #[.ref tt, .none, .none, .none, .bool false, .none] }), (h₁.objs.size, od')] ++ (cells ++ (news ++ D.ext)), F₃, fun q hq => ?_, fun F₄ N₄ => ⟨rfl, ?_⟩⟩
      · rcases List.mem_cons.mp hq with rfl | hq
        · exact ⟨hx₂, z.2⟩
        · rcases List.mem_cons.mp hq with rfl | hq
          · refine ⟨hod, Ne.symm hL', ?_⟩
            cases q : g'.get? h₁.objs.size with
            | none => rfl
            | some o => exact absurd (Heap.lt_size (F₂.keep _ _ q)) (Nat.lt_irrefl _)
          · have y := N₂ q (.tail _ hq)
            exact ⟨keep _ _ (neA q hq) y.1, y.2⟩
      · obtain ⟨r', l, e', I'⟩ := Inv.ext_objs (D := D) (a := e) (d := h₁.objs.size) (o := .exc a) (Inv.beside (D := D) (l₁ := [(e, { cls := .ref 75, dict := some h₁.objs.size, data := .fields #[.ref tt, .none, .none, .none, .bool false, .none] }), (h₁.objs.size, od')]) Gg F₄ N₄ (by
            show (e :: h₁.objs.size :: (cells ++ (news ++ D.ext)).map (·.1)).Nodup
            rw [List.nodup_cons, List.nodup_cons, List.mem_cons]
            refine ⟨?_, fun hm => ?_, Co.nd⟩
            · rintro (y | y)
              · exact neE y
              · obtain ⟨q, hq, y⟩ := List.mem_map.mp y
                exact neA q hq y
            · obtain ⟨q, hq, y⟩ := List.mem_map.mp hm
              exact lt₁ q hq y) Co) fun r' l e' => ⟨e, h₁.objs.size, _, _, od', e', rfl, rfl, rfl, rfl, rfl, _, a', ⟨es', ep', hdd', hkk', hff'⟩, by rw [← n_message]; exact if_pos rfl, ha.mono l⟩
        exact kq r' _ _ _ h₂ tk₂ l hka I' ⟨e, _, e', rfl⟩
  exact main (by k_is) (by k_is) rfl (fun s x y => BindsTo.of_eq rfl) (by decide +kernel) (by decide +kernel) rfl rfl rfl (by decide +kernel) rfl
end
theorem ref_ga (P : Params) : findIn (hd.heap_1 P) (.ref 75) "__getattribute__" = some (some (.builtin "BaseException.__getattribute__")) := by k_is
theorem ref_gk (P : Params) : findIn (hd.heap_1 P) (.ref 75) "__getattr__" = some none := by k_is
theorem ref_ms (P : Params) : findIn (hd.heap_1 P) (.ref 75) (Str.ofString "message") = some none := by k_is
theorem ref_hd (P : Params) : hasDictIn (hd.heap_1 P) 75 = true := by k_is
theorem ref_mi (P : Params) : mroIn (hd.heap_1 P) 75 (.type "BaseException") = some true := by k_is
section
variable {prog : Program} {w : World} {A : Around} {K : Frag} {x : Addr} {E : Value → Shared → Prop} {h : Heap} {g : Array GenState} {d : Drawn} {t : Nat} {os : OsState}
theorem get_ref {ox : Obj} {od : Option Obj} {name : Str} {v : Value} {expr : Bool} {Q : Value → Shared → Prop} (X : K.In h) (I : InstAt h x ox 75 od) (hga : findIn K (.ref 75) "__getattribute__" = some (some (.builtin "BaseException.__getattribute__"))) (hgk : findIn K (.ref 75) "__getattr__" = some none)
    (hm : mroIn K 75 (.type "BaseException") = some true) (hf : findObj K 75 od name = some (.value v)) (hh : handedIn v = true) (hq : Q v ⟨h, g, d, t + 1, os⟩) : wpAny (model prog w) A (getAttr (.ref x) name expr) Q E ⟨h, g, d, t, os⟩ := by
  have L0 := I.type (M := model prog w)
  have L1 := looks_findIn (M := model prog w) X hga
  have L2 := looks_findIn (M := model prog w) X hgk
  have L3 := looks_find (M := model prog w) X I hf
  unfold getAttr getAttrBy
  refine wpAny_bind (wpAny_mkText (wpAny_holding (wpAny_bind (L0.at (wpAny_bind (L1.at ?_))))))
  dsimp only
  rw [if_neg (by rw [show (Value.builtin "BaseException.__getattribute__" == Value.builtin "object.__getattribute__") = false by decide +kernel, Bool.and_false]; decide)]
  unfold getAttrByItsOwn
  refine wpAny_bind (show wpAny _ _ (typeLookup (.ref 75) "__getattr__") _ _ _ from L2.at ?_)
  have f3 := PySem.F.attrBase_Exception.ga.bind (.ref x)
  have hx0 : (expr && onTheHeap (Value.builtin "BaseException.__getattribute__")) = false := by cases expr <;> rfl
  unfold callGetattribute
  rw [hx0]
  repeat (any_goals (first | assumption | wp_step))
  have sub : Looks (model prog w) h (isInstance (.ref x) (.type "BaseException")) true := I.type.andThen (looks_mroIn X hm)
  refine codeAny_call_builtin PySem.F.attrBase_Exception.ga.plain PySem.F.entry_bexc_ga (@check_slot (model prog w) _ _ _ "BaseException.__getattribute__" "BaseException" "__getattribute__" (.ref x) [.str name t] [] _ (by decide +kernel) (by decide +kernel) sub (PySem.F.args_bexc_ga (.ref x) (.str name t)) ?_)
  refine wpAny_bind (wpAny_pure (wpAny_bind (wpAny_pure (wpAny_bind (L0.at (wpAny_bind (L3.at ?_)))))))
  refine wpAny_pure ?_
  show wpAny _ _ (handedOut v) _ _ _
  rw [handedOut_of hh]; exact wpAny_pure hq
end
section
variable {w : World} {mg mb : Str → Option Value} {means : ExcName → Option Value} {C : Cx}
theorem look_ns {od : Obj} {m₂ : Str → Option Value} {n : Str} {v : Value} (h : LCg.NsObj od m₂) (e : m₂ n = some v) : lookIn n od = some (some v) := by
  obtain ⟨es, ep, hd, _, hf⟩ := h
  have := (hf n).trans e
  unfold nsFind findBy at this
  rw [← Array.find?_toList] at this
  unfold lookIn
  rw [hd]
  dsimp only
  cases q : es.toList.find? (fun x => x.key.isStr n) with
  | none => rw [q] at this; cases this
  | some en => rw [q] at this; cases this; rfl
theorem onCau_some {v : AV} {s : St} {f : AV → Bool} (h : onCau v s f = true) : onObj v s (fun o => match o with | .cau m => f m | _ => false) = true := h
theorem snd_msg {x : Sx} {e : PySem.Expr} {pos : Pos} (hx : SndX w mg mb means C x e)
    (he : ∀ env, eval (.Attribute e (Str.ofString "message") pos) env = (do
      let o ← eval e env
      standAt pos.atName
      let r ← holding [o] (getAttr o (Str.ofString "message") true)
      letTemporaryGo e o r
      pure r)) : SndX w mg mb means C (xMsg x) (.Attribute e (Str.ofString "message") pos) := by
  intro D r s h t k kr Q E G hk I kq ke
  refine Attribute_any_ (hx D r s h t _ kr _ E G hk I (fun r₁ v s₁ v' h₁ t₁ l₁ hk₁ I₁ hv => ?_) ke) (he _)
  refine obj_el I₁ hv (onCau_some hk₁) fun i o g m cells pre l post a d₀ q10 e2 e3 q13 e5 Gg F N Co hor hup => ?_
  subst q10
  subst q13
  split at e3
  · rename_i mv
    obtain ⟨e', d, oe, vs, od, e6, rfl, hc, hdi, hd, m₂, u, hno, hm2, hu⟩ := hor
    rw [e5] at e6
    obtain ⟨rfl, rfl⟩ : a = e' ∧ d₀ = d := by cases e6; exact ⟨rfl, rfl⟩
    obtain ⟨hno', hku⟩ := noOpq_some e3
    have I' : InstAt h₁ a oe 75 (some od) := ⟨(N (a, oe) (mem3 (.head _))).1, hc, by unfold notCls; rw [hd], by rw [hdi]; exact (N (d₀, od) (mem3 (.tail _ (.head _)))).1⟩
    exact get_ref ((Gg.top G).1.keeps F.keep) I' (ref_ga _) (ref_gk _) (ref_mi _) (findObj_own (ref_hd _) (ref_ms _) rfl (look_ns hno (by rw [n_message]; exact hm2))) (hu.handed hno') (kq r₁ mv s₁ u h₁ (t₁ + 1) l₁ hku I₁ hu)
  · cases e3
end
section
variable {w : World} {mg mb : Str → Option Value} {means : ExcName → Option Value} {C : Cx} {D : Dy}
theorem catch_inv {r : Va} {s : St} {mv : AV} {e d : Addr} {od : Obj} {h₂ h₅ g G B : Heap} {m : Str → Option Value} {cells news : List (Addr × Obj)} (Gg : Gr D g) (F : Fr g D.L G m) (U : G.UpToSlots h₂) (b2 : ∀ b o, G.get? b = some o → b ∉ (fenv C D :: D.outer).filterMap (·.frame) → B.get? b = some o)
    (b3 : ∀ q ∈ (d, od) :: (cells ++ (news ++ D.ext)), B.get? q.1 = some q.2 ∧ G.get? q.1 = none) (b5 : B.get? e = none) (nd : (((d, od) :: (cells ++ (news ++ D.ext))).map (·.1)).Nodup) (dr : ExD r mv od) (Co : Core w C D r s m cells news)
    (X₅ : OverD B (fenv C D :: D.outer) h₂ h₅) (N₅ : NotedD B e d .none h₅) : ∃ r', r.Le r' ∧ Inv w C D r' (put (.cau mv) s) h₅ ∧ VR r' (.obj s.nx) (.ref e) := by
  obtain ⟨oe, vs, _, _, _, he, hc, hdi, hd, _⟩ := N₅
  have UX := U.trans X₅.up
  have nL : g.get? D.L = none := kts_self F
  obtain ⟨T₁, S₁⟩ := kts_turn_at (h := h₅) (fs := D.fs) (g := g)
    (fun b hb => by
      obtain ⟨_, o, ho', _⟩ := Gg.B.frames.mem hb
      exact ⟨o, ho'⟩)
    (fun b o hb nmem => X₅.stays b o (b2 b o (F.keep b o hb) fun q => by
      rcases mem_frames q with z | z
      · rw [z, nL] at hb; cases hb
      · exact nmem z))
    (fun b o hb hm => by
      obtain ⟨_, o', ho', hnf⟩ := Gg.B.frames.mem hm
      rw [hb] at ho'; cases ho'
      exact UX b o (F.keep b o hb) hnf)
  have B₃ : Below D.A₀ D.base D.outer (ktsHeap h₅ D.fs g) := ⟨Gg.B.stack, fun b o hb => T₁.other b o (Gg.B.stays b o hb) (fun hm => by
    rw [(Gg.B.frames.mem hm).1] at hb
    cases hb), Gg.B.frames.of_keeps fun b o hb _ => by
    obtain ⟨sl', hs'⟩ := T₁.up hb
    exact ⟨_, hs', rfl⟩⟩
  have G₂ : Gr D (ktsHeap h₅ D.fs g) := ⟨Gg.T.trans T₁, B₃, Gg.K.turn T₁⟩
  have F₂ : Fr (ktsHeap h₅ D.fs g) D.L h₅ m := ⟨UX.ns F.ns, S₁, by rw [T₁.size]; exact F.above⟩
  have eF : ∀ L ∈ (fenv C D :: D.outer).filterMap (·.frame), e ≠ L := fun L hL q => by
    obtain ⟨_, o, ho', hnf⟩ := X₅.frames.mem hL
    rw [← q, he] at ho'; cases ho'
    exact hnf vs hd
  have eg : g.get? e = none := by
    cases q : g.get? e with
    | none => rfl
    | some o =>
      have := b2 e o (F.keep e o q) fun hm => eF e hm rfl
      rw [b5] at this; cases this
  have N₂ : News (ktsHeap h₅ D.fs g) D.L h₅ ([(e, oe), (d, od)] ++ (cells ++ (news ++ D.ext))) := fun q hq => by
    rcases List.mem_cons.mp hq with rfl | hq
    · exact ⟨he, eF D.L (List.mem_filterMap.mpr ⟨_, .head _, rfl⟩), T₁.none_ _ eg⟩
    · obtain ⟨c1, c2⟩ := b3 q hq
      refine ⟨X₅.stays _ _ c1, fun z => ?_, T₁.none_ _ (kts_none F.keep c2)⟩
      obtain ⟨oL, _, _, hL, _⟩ := F.ns
      rw [z, hL] at c2; cases c2
  obtain ⟨r', l, e', I'⟩ := Inv.ext_objs (D := D) (a := e) (d := d) (o := .cau mv) (Inv.beside (D := D) (l₁ := [(e, oe), (d, od)]) G₂ F₂ N₂ (by
    show (e :: (((d, od) :: (cells ++ (news ++ D.ext))).map (·.1))).Nodup
    rw [List.nodup_cons]
    refine ⟨fun hm => ?_, nd⟩
    obtain ⟨q, hq, z⟩ := List.mem_map.mp hm
    have := (b3 q hq).1
    rw [z, b5] at this; cases this) Co) fun r' l e' => ⟨e, d, oe, vs, od, e', rfl, hc, hdi, hd, dr.mono l⟩
  exact ⟨r', l, I', e, d, e', rfl⟩
end
section
variable {w : World} {mg mb : Str → Option Value} {means : ExcName → Option Value} {C : Cx} {D : Dy}
theorem get_clr {u : AV} : ∀ {l : List (Option AV)} {i j : Nat}, at? (clr l i) j = some (some u) → j ≠ i ∧ at? l j = some (some u)
  | [], i, j, h => by cases i <;> cases j <;> cases h
  | x :: l, 0, 0, h => by cases h
  | x :: l, 0, j + 1, h => ⟨Nat.succ_ne_zero j, h⟩
  | x :: l, i + 1, 0, h => ⟨(Nat.succ_ne_zero i).symm, h⟩
  | x :: l, i + 1, j + 1, h => by
    obtain ⟨a, b⟩ := get_clr (l := l) (i := i) (j := j) h
    exact ⟨fun e => a (Nat.succ.inj e), b⟩
theorem get_clrLoc {u : AV} {s : St} {i j : Nat} (h : (clrLoc i s).get j = some u) : j ≠ i ∧ s.get j = some u := by
  obtain ⟨a, b⟩ := get_clr (get_at h)
  exact ⟨a, by unfold St.get; rw [b]⟩
theorem unbind_inv {A : Around} {E : Value → Shared → Prop} {r : Va} {s : St} {h : Heap} {t : Nat} {i : Nat} {x : Str} {v : AV} {pos : Pos} {Q : Unit → Shared → Prop} (G : Good w mg mb means C D) (I : Inv w C D r s h) (hx : C.ns[i]? = some x) (hl : C.cs.names.lookup x = some .local) (hs : s.get i = some v)
    (k : ∀ h', Inv w C D r (clrLoc i s) h' → Q () ⟨h', D.gs, D.d, t, D.os⟩) : wpAny (model PG w) A (unbindBehindTheSuite (fenv C D) x pos) Q E ⟨h, D.gs, D.d, t, D.os⟩ := by
  refine Inv.el I fun g m cells news Gg F N Co => ?_
  obtain ⟨y, v', hy, hvr, hr⟩ := Co.slot i v hs
  rw [hx] at hy; cases hy
  have hm : m x = some v' := by
    rcases hr with ⟨_, e⟩ | ⟨e, _⟩
    · exact e
    · rw [hl] at e; cases e
  unfold unbindBehindTheSuite
  refine wpAny_onRaise (wpAny_unbindName_local (env := fenv C D) (s := ⟨h, D.gs, D.d, t, D.os⟩) hl F.ns hm (by show (C.cs.kind == .class || (C.cs.kind == .module && D.L != mainGlobals)) = false; rw [G.hk]; rfl) fun h' u hn hsb => ?_)
  have gL : g.get? D.L = none := kts_self F
  refine k h' ⟨g, _, cells, news, Gg, ⟨hn, fun b o e => (hsb.2 b fun q => by rw [q] at e; exact absurd e (by show g.get? D.L ≠ _; rw [gL]; simp)).trans (F.keep b o e), F.above⟩, fun p hp => ⟨(hsb.2 _ (N p hp).2.1).trans (N p hp).1, (N p hp).2⟩, ⟨Co.nd, Co.led, Co.new, fun j z hz => ?_, Co.cv, Co.cell, Co.scr⟩⟩
  obtain ⟨hj, hz⟩ := get_clrLoc hz
  obtain ⟨y, z', hy, hzr, hr⟩ := Co.slot j z hz
  refine ⟨y, z', hy, hzr, hr.imp (fun c => ⟨c.1, ?_⟩) id⟩
  show (if y = x then u else m y) = some z'
  rw [if_neg (fun e : y = x => hj (ns_inj G hy (by rw [e]; exact hx)))]
  exact c.2
end
section
variable {w : World} {mg mb : Str → Option Value} {means : ExcName → Option Value} {C : Cx} {D : Dy}
theorem set_get {v : AV} : ∀ {l : List (Option AV)} {i : Nat}, i < l.length → at? (setL v l i) i = some (some v)
  | [], i, h => by cases h
  | _ :: _, 0, _ => rfl
  | _ :: l, i + 1, h => set_get (l := l) (i := i) (Nat.lt_of_succ_lt_succ h)
theorem set_len {v : AV} : ∀ {l : List (Option AV)} {i : Nat}, (setL v l i).length = l.length
  | [], i => by cases i <;> rfl
  | _ :: _, 0 => rfl
  | _ :: l, i + 1 => congrArg (· + 1) (set_len (l := l) (i := i))
theorem clr_set {v : AV} : ∀ {l : List (Option AV)} {i : Nat}, clr (setL v l i) i = clr l i
  | [], i => by cases i <;> rfl
  | _ :: _, 0 => rfl
  | x :: l, i + 1 => congrArg (x :: ·) (clr_set (l := l) (i := i))
theorem set_out {v : AV} : ∀ {l : List (Option AV)} {i : Nat}, ¬ i < l.length → setL v l i = l
  | [], i, _ => by cases i <;> rfl
  | _ :: _, 0, h => (h (Nat.succ_pos _)).elim
  | x :: l, i + 1, h => congrArg (x :: ·) (set_out (l := l) (i := i) fun h' => h (Nat.succ_lt_succ h'))
theorem end_inv {A : Around} {E : Value → Shared → Prop} {r : Va} {s : St} {h : Heap} {t : Nat} {i : Nat} {x : Str} {pos : Pos} {Q : Unit → Shared → Prop} (G : Good w mg mb means C D) (I : Inv w C D r s h) (hx : C.ns[i]? = some x) (hl : C.cs.names.lookup x = some .local) (hi : i < s.loc.length)
    (k : ∀ h' t', Inv w C D r (clrLoc i s) h' → Q () ⟨h', D.gs, D.d, t', D.os⟩) : wpAny (model PG w) A (do bindName (fenv C D) x .none; unbindBehindTheSuite (fenv C D) x pos) Q E ⟨h, D.gs, D.d, t, D.os⟩ := by
  refine wpAny_bind (wpAny_bindName (st_inv G I hx (v := .none) rfl (.inl hl) fun h' t' I' => ?_))
  refine unbind_inv (v := .none) G I' hx hl (by unfold St.get setLoc; dsimp only; rw [set_get hi]) fun h'' I'' => k h'' t' ?_
  have e : clrLoc i (setLoc i .none s) = clrLoc i s := by unfold clrLoc setLoc; dsimp only; rw [clr_set]
  rw [e] at I''; exact I''
theorem snds_try {i : Nat} {x : Str} {b hd' : Sb} {es hs : List PySem.Stmt} {b₀ : PySem.Stmt} {np hp pos : Pos} (hc : C.cmp = none) (hh : C.hdl = false) (hx : C.ns[i]? = some x) (hko : kOf C (Str.ofString "Refusal") = some .globalImplicit) (hb : SndB w mg mb means C b es) (hhb : SndB w mg mb means { C with hdl := true } hd' (b₀ :: hs))
    (hl : C.cs.names.lookup x = some .local) : SndS w mg mb means C (sTryx b i hd') (.Try es [.ExceptHandler (some (.Name (Str.ofString "Refusal") np)) (some x) (b₀ :: hs) hp] [] [] pos) := by
  intro D r s h t k kret kr Q E G hk I fq ke
  refine wpAny_Try_except (hb D r s h t k kret _ _ _ G hk I ⟨fun r' s' h' t' l hk' I' => wpAny_execs_nil (fq.1 r' s' h' t' l hk' I'), fun r' v s' v' h' t' l hk' I' hv => fq.2 r' v s' v' h' t' l hk' I' hv⟩ fun r₁ mv s₁ v' h₁ t₁ l₁ hk₁ X => ?_)
  have henv : C.env D = fenv C D := Good.env0 hc
  rw [henv]
  obtain ⟨hf, hk₁⟩ := alloc_some hk₁
  obtain ⟨g, Gh, m, cells, news, e, d, od, rfl, Gg, F, U, ⟨B, b1, b2, b3, b4, b5, b6, b7⟩, nd, dr, Co⟩ := X
  refine noteD (s := ⟨h₁, D.gs, D.d, t₁, D.os⟩) (B := B) (h₀ := h₁) rfl rfl ⟨b4, b6, Heap.UpToSlots.refl h₁⟩ b5 b7 fun h₂ X₂ N₂ => ?_
  refine landsD (s := ⟨h₂, D.gs, D.d, t₁, D.os⟩) X₂ N₂ fun h₃ X₃ N₃ => ?_
  obtain ⟨r₂, l₂, I₂, hv₂⟩ := catch_inv Gg F U b2 b3 b5 nd dr Co X₃ N₃
  refine Inv.el I₂ fun g₂ m₂ cells₂ news₂ Gg₂ F₂ _ _ => ?_
  have hC₃ : h₃.get? 75 = some refObj := F₂.keep _ _ ((Gg₂.top G).1 _ _ (ref_at w.params))
  obtain ⟨oe, _, _, _, _, he, hcl, _⟩ := id N₃
  refine wpAny_handleBy_cons (codeAny_handlers_test ?_) (by intro q; cases q)
  rw [← henv]
  refine rd_glo (g := g₂) G Gg₂ F₂ (gf_Refusal _) hko (by decide +kernel) ?_
  refine wpAny_excMatches_sub_self hC₃ he hcl (by decide +kernel) ?_
  rw [henv]
  refine codeAny_handlers_suite_as (landsD (s := ⟨h₃, D.gs, D.d, t₁, D.os⟩) X₃ N₃ fun h₄ X₄ N₄ => ?_)
  obtain ⟨r₃, l₃, I₃, hv₃⟩ := catch_inv Gg F U b2 b3 b5 nd dr Co X₄ N₄
  refine st_inv G I₃ hx hv₃ (.inl hl) fun h₅ t₅ I₅ => ?_
  have Gh : Good w mg mb means { C with hdl := true } { D with hd := some (.ref e) } := ⟨G.hk, G.nsd, G.dp, G.un, G.XB, G.TB, fun z => (by cases z), G.cm, G.sl⟩
  have I₆ : Inv w { C with hdl := true } { D with hd := some (.ref e) } r₃ (setLoc i (.obj s₁.nx) (put (.cau mv) s₁)) h₅ := by
    refine Inv.el I₅ fun g m cells news Gg F N Co => ?_
    exact ⟨g, m, cells, news, ⟨Gg.T, Gg.B, Gg.K⟩, F, N, ⟨Co.nd, Co.led, Co.new, Co.slot, Co.cv, Co.cell, Co.scr⟩⟩
  have out : ∀ r' s' h', Inv w { C with hdl := true } { D with hd := some (.ref e) } r' s' h' → Inv w C D r' s' h' := by
    rintro r' s' h' ⟨g, m, cells, news, Gg, F, N, Co⟩
    exact ⟨g, m, cells, news, ⟨Gg.T, Gg.B, Gg.K⟩, F, N, ⟨Co.nd, Co.led, Co.new, Co.slot, Co.cv, Co.cell, Co.scr⟩⟩
  have henv' : Cx.env { C with hdl := true } { D with hd := some (.ref e) } = fenv C D := henv
  have body := hhb { D with hd := some (.ref e) } r₃ _ h₅ t₅ _ _ noR (fun f s₃ => wpAny (model PG w) (C.A D) (do bindName (fenv C D) x .none; unbindBehindTheSuite (fenv C D) x hp) (fun _ s₄ => Q f s₄) E s₃) (fun _ _ => False) Gh hk₁ I₆
    ⟨fun r' s' h' t' l hk' I' => by
      obtain ⟨hlt, hk'⟩ := ifO_some hk'
      exact end_inv G (out _ _ _ I') hx hl (by rw [Nat.blt_eq] at hlt; exact hlt) fun h'' t'' I'' => fq.1 r' _ h'' t'' (l₁.trans (l₃.trans l)) hk' I'',
     fun r' v s' v' h' t' l hk' I' hv => by
      obtain ⟨hlt, hk'⟩ := ifO_some hk'
      exact end_inv G (out _ _ _ I') hx hl (by rw [Nat.blt_eq] at hlt; exact hlt) fun h'' t'' I'' => fq.2 r' v _ v' h'' t'' (l₁.trans (l₃.trans l)) hk' I'' hv⟩ (fun _ _ _ _ _ _ _ z => by cases z)
  rw [henv'] at body
  exact wpAny_mono body (fun f s₃ hq => hq) fun _ _ z => z.elim
end
noncomputable def drawsB (vs : List AV) : Sx := fun s k _ => match vs with | [.opq 0] => alloc .state s k | _ => false
section
variable {w : World} {mg mb : Str → Option Value} {means : ExcName → Option Value} {C : Cx} {D : Dy}
theorem forget {r : Va} {s : St} {h : Heap} (I : Inv w C D r s h) (hk : keepsL s = true) (hcm : D.cm = none) : ∃ r', Inv w C D r' stLaw h := by
  refine Inv.el I fun g m cells news Gg F N Co => ?_
  unfold keepsL at hk
  split at hk
  · rename_i l hloc
    split at hk
    · rename_i hlook
      obtain ⟨pre, l₁, post, e, hor, _⟩ := Co.led.look hlook
      subst e
      obtain ⟨a, d, S, e5, rfl, OK⟩ := hor
      have hs : (cells ++ (S.led a d ++ D.ext)).Sublist (cells ++ ((pre ++ (S.led a d ++ post)) ++ D.ext)) :=
        (List.Sublist.refl _).append (((List.sublist_append_left _ _).trans (List.sublist_append_right _ _)).append (List.Sublist.refl _))
      have e0 : s.get 0 = some (.opq 0) := by unfold St.get; rw [hloc]; rfl
      have e1 : s.get 1 = some (.obj 1) := by unfold St.get; rw [hloc]; rfl
      refine ⟨fun i => if i < 2 then r i else none, g, m, cells, S.led a d, Gg, F, fun p hp => N p (hs.subset hp), ⟨(hs.map (·.1)).nodup Co.nd, ⟨S.led a d, [], (List.append_nil _).symm, ⟨a, d, S, e5, rfl, OK⟩, rfl⟩, fun i hi => if_neg (Nat.not_lt.mpr hi), fun i v hi => ?_, fun k hk => ?_, Co.cell, Co.scr⟩⟩
      · match i, hi with
        | 0, hi =>
          cases hi
          obtain ⟨x, v', a1, a2, a3⟩ := Co.slot 0 _ e0
          exact ⟨x, v', a1, a2, a3⟩
        | 1, hi =>
          cases hi
          obtain ⟨x, v', a1, a2, a3⟩ := Co.slot 1 _ e1
          exact ⟨x, v', a1, a2, a3⟩
        | 2, hi => cases hi
        | 3, hi => cases hi
        | 4, hi => cases hi
        | 5, hi => cases hi
        | 6, hi => cases hi
        | n + 7, hi => cases hi
      · rw [hcm] at hk; cases hk
    · cases hk
  · cases hk
theorem law_for {x nm : Str} {b : Sb} {es : List PySem.Stmt} {n : Nat} {p q pi pp pos : Pos} {nl : Nat} (hc : C.cmp = none) (hhd : C.hdl = false) (gb : GB w.params nm (.type "range")) (hko : kOf C nm = some .globalImplicit) (hdb : (nm == ("__debug__" : Str)) = false)
    (hst : ∀ env, starEach [.Constant (.int (Int.ofNat n)) nl pi] env = [(false, eval (.Constant (.int (Int.ofNat n)) nl pi) env)]) (hn : n ≤ 40) (hx : C.ns[2]? = some x) (hy : SndX w mg mb means C (xInt (Int.ofNat n)) (.Constant (.int (Int.ofNat n)) nl pi)) (hb : SndB w mg mb means C b es)
    (hlap : b stLaw keepsL (fun _ _ => false) (fun _ _ => false) = true)
    (hl : C.cs.names.lookup x = some .local ∨ (C.cs.names.lookup x = some .cell ∧ ∀ L, ((cellsFrom (L + 1) C.cs.names []).lookup x).isSome = true))
    (hfs : ∀ D v, foldedSetIterable (.Call (.Name nm q) [.Constant (.int (Int.ofNat n)) nl pi] [] pp) (C.env D) v = pure v)
    {r : Va} {h : Heap} {t : Nat} {Q : Flow → Shared → Prop} {E : Value → Shared → Prop} (G : Good w mg mb means C D) (hcm : D.cm = none) (I : Inv w C D r stLaw h) (fq : ∀ r' h' t', Inv w C D r' stLaw h' → Q .next ⟨h', D.gs, D.d, t', D.os⟩) :
    wpAny (model PG w) (C.A D) (exec (.For (.Name x p) (.Call (.Name nm q) [.Constant (.int (Int.ofNat n)) nl pi] [] pp) es [] pos) (C.env D)) Q E ⟨h, D.gs, D.d, t, D.os⟩ := by
  refine wpAny_For (range_src (x := xInt (Int.ofNat n)) (k := fun n s => keepsL s) (kr := noR) gb hko hdb hy hst G (show ifO (Nat.ble n 40) (keepsL stLaw) = true by rw [Nat.ble_eq_true_of_le hn]; rfl) I (fun r₁ n s₁ h₁ t₁ R t2 t3 t4 l₁ hle hk₁ I₁ hR => ?_) (fun _ _ _ _ _ _ _ hf => by cases hf)) (hfs D)
  obtain ⟨r₀, I₀⟩ := forget I₁ hk₁ hcm
  refine wpAny_pyIter_range (s := ⟨h₁, D.gs, D.d, t₁, D.os⟩) hR (range_small hle) ?_
  rw [range_size]
  refine codeAny_forLoop_any (fun f s' => ∃ r' h' t' jj f' oI, f = f' + 1 ∧ s' = ⟨h', D.gs, D.d, t', D.os⟩ ∧ Inv w C (D.ex (h₁.objs.size, oI)) r' stLaw h' ∧ oI = ⟨.type "range_iterator", none, .fields #[rawInt (jj : Nat), rawInt (f' : Nat), rawInt 1], #[]⟩) ?_ (n + 1)
    ⟨r₀, _, t₁, 0, n, _, rfl, rfl, Inv.ext_in (p := (h₁.objs.size, _)) I₀ (fun b o e => Heap.get?_push_of_some _ e) (Heap.get?_push_size _ rfl) (Nat.le_refl _), rfl⟩
  rintro _ s' ⟨r', h', t', jj, f, oI, rfl, rfl, I', rfl⟩
  have hit : IsRangeIter h' h₁.objs.size (jj : Nat) (f : Nat) 1 := I'.ext_at
  cases f with
  | zero =>
    refine wpAny_pyNext_range_end (s := ⟨h', D.gs, D.d, t', D.os⟩) (G.hd hhd) hit (by omega) fun h₂ he => wpAny_execs_nil ?_
    exact fq r' h₂ t' (I'.ext_drop fun b o hb e => he b o hb e)
  | succ f =>
    refine wpAny_pyNext_range_item (s := ⟨h', D.gs, D.d, t', D.os⟩) hit (by omega) fun h₂ hit₂ hs₂ => ?_
    have e1 : ((jj : Nat) : Int) + 1 = ((jj + 1 : Nat) : Int) := by omega
    have e2 : ((f + 1 : Nat) : Int) - 1 = (f : Nat) := by omega
    rw [e1, e2] at hit₂
    have I₂ : Inv w C (D.ex (h₁.objs.size, _)) r' stLaw h₂ := I'.ext_upd (fun b o hb e => (hs₂.2 b hb).trans e) hit₂
    refine letGo_rangeiter (s' := ⟨h₂, D.gs, D.d, t' + 1, D.os⟩) hit₂ ?_
    have henv : C.env D = fenv C D := Good.env0 hc
    rw [henv]
    refine wpAny_assign_Name (st_inv (D := D.ex (h₁.objs.size, _)) (v := .int (.lit (Int.ofNat jj))) G.ex I₂ hx ⟨_, _, rfl, rfl⟩ hl fun h₃ t₃ I₃ => ?_)
    rw [← henv]
    obtain ⟨r₃, I₃⟩ := forget I₃ rfl hcm
    refine hb (D.ex (h₁.objs.size, _)) r₃ stLaw h₃ t₃ keepsL (fun _ _ => false) (fun _ _ => false) _ _ G.ex hlap I₃ ⟨fun r₄ s₄ h₄ t₄ l₄ hk₄ I₄ => ?_,
      fun _ _ _ _ _ _ _ hf => by cases hf⟩ (fun _ _ _ _ _ _ _ hf => by cases hf)
    obtain ⟨r₅, I₅⟩ := forget I₄ hk₄ hcm
    exact ⟨f + 1, Nat.lt_succ_self _, r₅, h₄, t₄, jj + 1, f, _, rfl, rfl, I₅, rfl⟩
end
section
variable {w : World} {mg mb : Str → Option Value} {means : ExcName → Option Value} {C : Cx} {D : Dy}
theorem draws_snd : SndF w mg mb means 555 1 8 drawsB := by
  intro C D r s h t vs vs' k kr Q E G hlev hhd hlen hk I hv kq ke
  unfold drawsB at hk
  split at hk
  · obtain ⟨a', rfl, ha⟩ := hv.one
    obtain ⟨hf, hka⟩ := alloc_some hk
    refine Inv.el I fun g m cells news Gg F N Co => ?_
    have e1 := Co.scr
    have ha : r 0 = some (.val a') := ha
    rw [e1] at ha
    cases ha
    obtain ⟨svs, sns, SC, hL⟩ := G.sl
    have hL' : g.IsList D.sa svs.toArray := hL.at fun o e => Gg.B.stays _ o e
    have hdp := G.dp
    have hun := G.un
    rw [G.top hhd]
    refine Ct.use (draws_ct w mg mb means (rest := cells ++ (news ++ D.ext)) SC) Gg.B F (Gg.top G).1 N (Gg.top G).2 (fun p hp => by rw [List.mem_singleton.mp hp]; exact hL') G.hk (by omega) (by omega) (fun p h => h) (fun rv l h' tk' ok F' N' => ?_)
    obtain ⟨st, rw, S, rfl, OK, lt1, lt2, sub⟩ := ok
    have N₂ : News g D.L h' (S.led st rw ++ (cells ++ (news ++ D.ext))) := fun p hp => N' p (sub p hp)
    obtain ⟨r', l, e, I'⟩ := alloc_inv (l₁ := S.led st rw) (a := st) (d := rw) (o := .state) Gg F' N₂ (by
      show (st :: rw :: (cells ++ (news ++ D.ext)).map (·.1)).Nodup
      rw [List.nodup_cons, List.nodup_cons, List.mem_cons]
      refine ⟨?_, fun h => ?_, Co.nd⟩
      · rintro (h | h)
        · exact absurd h (Nat.ne_of_gt OK.hLt)
        · obtain ⟨p, hp, e⟩ := List.mem_map.mp h
          exact absurd e (Nat.ne_of_lt (allLt_mem lt2 p hp))
      · obtain ⟨p, hp, e⟩ := List.mem_map.mp h
        exact absurd e (Nat.ne_of_lt (allLt_mem lt1 p hp))) Co fun r' l e => ⟨st, rw, S, e, rfl, OK⟩
    exact kq r' _ _ _ h' tk' l hka I' ⟨st, rw, e, rfl⟩
  · cases hk
end
section
variable {w : World} {mg mb : Str → Option Value} {means : ExcName → Option Value} {C : Cx} {D : Dy}
theorem casesV_all {f : AV → Bool} : ∀ {l : List AV}, casesV f l = true → ∀ a ∈ l, f a = true
  | [], _, a, h => nomatch h
  | b :: r, hc, a, h => by
    unfold casesV at hc
    split at hc
    · rcases List.mem_cons.mp h with rfl | h
      · assumption
      · exact casesV_all hc a h
    · cases hc
theorem casesP_all {f : Int → Int → Bool} : ∀ {l : List (Int × Int)}, casesP f l = true → ∀ n d, (n, d) ∈ l → f n d = true
  | [], _, n, d, h => nomatch h
  | (a, b) :: r, hc, n, d, h => by
    unfold casesP at hc
    split at hc
    · rcases List.mem_cons.mp h with e | h
      · cases e; assumption
      · exact casesP_all hc n d h
    · cases hc
noncomputable abbrev kLog : List Nat := [108, 111, 103, 105, 99, 97, 108]
noncomputable abbrev kInt : List Nat := [105, 110, 116, 101, 103, 101, 114]
noncomputable abbrev kDbl : List Nat := [100, 111, 117, 98, 108, 101]
noncomputable abbrev kChr : List Nat := [99, 104, 97, 114, 97, 99, 116, 101, 114]
theorem okKind_is {l : List Nat} (h : okKind l = true) : l = kLog ∨ l = kInt ∨ l = kDbl ∨ l = kChr := by
  unfold okKind at h
  cases e1 : strEq l kLog with
  | true => exact .inl (strEq_iff.mp e1)
  | false =>
    cases e2 : strEq l kInt with
    | true => exact .inr (.inl (strEq_iff.mp e2))
    | false =>
      cases e3 : strEq l kDbl with
      | true => exact .inr (.inr (.inl (strEq_iff.mp e3)))
      | false =>
        cases e4 : strEq l kChr with
        | true => exact .inr (.inr (.inr (strEq_iff.mp e4)))
        | false => rw [e1, e2, e3, e4] at h; cases h
theorem ks_log : Str.ofString "logical" = mkS kLog := by decide +kernel
theorem ks_int : Str.ofString "integer" = mkS kInt := by decide +kernel
theorem ks_dbl : Str.ofString "double" = mkS kDbl := by decide +kernel
theorem ks_chr : Str.ofString "character" = mkS kChr := by decide +kernel
noncomputable def OkIt (kind : List Nat) (i : It) : Prop := (kind = kLog ∧ OkLog i) ∨ (kind = kInt ∧ OkInt i) ∨ (kind = kDbl ∧ OkDbl i) ∨ (kind = kChr ∧ OkChr i)
theorem item_way {strong : Bool} {kind : List Nat} {s : St} {k : KV} {i : It} (h : item strong kind s k = true) (ok : OkIt kind i) :
    (k (.opq s.nx) ⟨s.loc, s.cv, s.objs, s.nx.succ⟩ = true) ∨ (match i with
      | .none => k .none s = true
      | .int x => k (.int (.lit x)) s = true ∨ (x ≠ 0 ∧ x.natAbs < 2 ^ 62 ∧ k (.int (.nz s.nx)) ⟨s.loc, s.cv, s.objs, s.nx.succ⟩ = true)
      | .str x => ∃ l, x = mkS l ∧ k (.str (.lit l)) s = true
      | .rat n d => alloc (.tup [.int (.lit n), .int (.lit d)]) s k = true) := by
  unfold item at h
  cases strong with
  | false => exact .inl h
  | true =>
    refine .inr ?_
    dsimp only at h
    split at h
    · cases h
    · rename_i hn
      rcases ok with ⟨rfl, ok⟩ | ⟨rfl, ok⟩ | ⟨rfl, ok⟩ | ⟨rfl, ok⟩
      · replace h : casesV (fun v => k v s) [.int (.lit 0), .int (.lit 1)] = true := h
        rcases ok with rfl | rfl | rfl
        · exact hn
        · exact .inl (casesV_all h _ (.head _))
        · exact .inl (casesV_all h _ (.tail _ (.head _)))
      · replace h : (match k (.int (.lit 0)) s with | false => false | true => k (.int (.nz s.nx)) ⟨s.loc, s.cv, s.objs, s.nx.succ⟩) = true := h
        rcases ok with rfl | ⟨x, rfl, hx⟩
        · exact hn
        · split at h
          · cases h
          · rename_i h0
            by_cases hz : x = 0
            · subst hz; exact .inl h0
            · exact .inr ⟨hz, hx, h⟩
      · replace h : casesP (fun a b => alloc (.tup [.int (.lit a), .int (.lit b)]) s k) [(1, 2), (0, 1), (0, 0), (1, 0), (-1, 0), (-3, 1), (7, 1000000000)] = true := h
        rcases ok with rfl | ⟨n, d, rfl, hm⟩
        · exact hn
        · exact casesP_all h n d hm
      · replace h : casesV (fun v => k v s) (words.map fun w => .str (.lit w)) = true := h
        rcases ok with rfl | ⟨x, rfl, hm⟩
        · exact hn
        · obtain ⟨l, hl, rfl⟩ := List.mem_map.mp hm
          exact ⟨l, rfl, casesV_all h _ (List.mem_map.mpr ⟨l, hl, rfl⟩)⟩
end
section
variable {w : World} {mg mb : Str → Option Value} {means : ExcName → Option Value} {C : Cx} {D : Dy}
theorem item_all (w : World) (mg mb : Str → Option Value) (means : ExcName → Option Value) {st rw : Addr} {S : StD} {sc : Addr} {svs : List Value} {sns : List Int} {rest : List (Addr × Obj)} {kind : List Nat} (hok : okKind kind = true) (OK : S.Ok st rw) (SC : ScOk svs sns) (hr : ∀ p ∈ rest, p.1 ≠ st ∧ p.1 ≠ rw) (kt : Tok) :
    CtB w mg mb means [(sc, svs)] 567 [.ref st, .str (mkS kind) kt, .ref sc] 4 40 (S.led st rw ++ rest) (fun r news' => ∃ tl S' i, Above st tl ∧ ItIn rest tl r i ∧ OkIt kind i ∧ StD.Ok S' st rw ∧ ∀ p ∈ tl ++ (StD.led S' st rw ++ rest), p ∈ news') := by
  rcases okKind_is hok with rfl | rfl | rfl | rfl
  · rw [← ks_log]
    exact Ct.mono (item_log w mg mb means OK SC hr kt) fun r l ⟨tl, S', i, a, b, c, d⟩ => ⟨tl, S', i, a, b, .inl ⟨rfl, c⟩, d⟩
  · rw [← ks_int]
    exact Ct.mono (item_int w mg mb means OK SC hr kt) fun r l ⟨tl, S', i, a, b, c, d⟩ => ⟨tl, S', i, a, b, .inr (.inl ⟨rfl, c⟩), d⟩
  · rw [← ks_dbl]
    exact Ct.mono (item_dbl w mg mb means OK SC hr kt) fun r l ⟨tl, S', i, a, b, c, d⟩ => ⟨tl, S', i, a, b, .inr (.inr (.inl ⟨rfl, c⟩)), d⟩
  · rw [← ks_chr]
    exact Ct.mono (item_chr w mg mb means OK SC hr kt) fun r l ⟨tl, S', i, a, b, c, d⟩ => ⟨tl, S', i, a, b, .inr (.inr (.inr ⟨rfl, c⟩)), d⟩
theorem item_snd : SndF w mg mb means 567 3 5 itemB := by
  intro C D r s h t vs vs' k kr Q E G hlev hhd hlen hk I hv kq ke
  unfold itemB at hk
  split at hk
  · rename_i st kind
    split at hk
    · rename_i hok
      obtain ⟨a', b', c', rfl, ha, hb, hc⟩ := hv.three
      obtain ⟨x₀, kt, hx₀, rfl⟩ := hb
      have hx₀ : x₀ = mkS kind := hx₀
      subst hx₀
      have hc : r 0 = some (.val c') := hc
      refine obj_el I ha (onState_some hk) fun i o g m cells pre l post a d q10 e2 e3 q13 e5 Gg F N Co hor hup => ?_
      subst q10
      subst q13
      split at e3
      · obtain ⟨a₁, d₁, S, e6, rfl, OK⟩ := hor
        rw [e5] at e6; cases e6
        have e1 := Co.scr
        rw [e1] at hc
        cases hc
        obtain ⟨svs, sns, SC, hL⟩ := G.sl
        have hL' : g.IsList D.sa svs.toArray := hL.at fun o e => Gg.B.stays _ o e
        have hp : (cells ++ ((pre ++ (S.led a d ++ post)) ++ D.ext)).Perm (S.led a d ++ (cells ++ (pre ++ (post ++ D.ext)))) := by
          simp only [List.append_assoc]
          exact (List.Perm.append_left cells (List.perm_append_comm_assoc pre _ _)).trans (List.perm_append_comm_assoc cells _ _)
        have hnd := (hp.map (·.1)).nodup_iff.mp Co.nd
        have hne : ∀ p ∈ cells ++ (pre ++ (post ++ D.ext)), p.1 ≠ a ∧ p.1 ≠ d := by
          intro p hm
          rw [List.map_append, List.nodup_append] at hnd
          exact ⟨fun e => hnd.2.2 a (.head _) p.1 (List.mem_map_of_mem (f := (·.1)) hm) e.symm, fun e => hnd.2.2 d (.tail _ (.head _)) p.1 (List.mem_map_of_mem (f := (·.1)) hm) e.symm⟩
        have hdp := G.dp
        have hun := G.un
        rw [G.top hhd]
        refine Ct.use (item_all w mg mb means hok OK SC hne kt) Gg.B F (Gg.top G).1 N (Gg.top G).2 (fun p hp => by rw [List.mem_singleton.mp hp]; exact hL') G.hk (by omega) (by omega) (fun p h => hp.mem_iff.mpr h) (fun rv l h' tk' ok F' N' => ?_)
        obtain ⟨tl, S', it, hab, hin, hit, OK', sub⟩ := ok
        have hp' : (cells ++ ((pre ++ (StD.led S' a d ++ post)) ++ D.ext)).Perm (StD.led S' a d ++ (cells ++ (pre ++ (post ++ D.ext)))) := by
          simp only [List.append_assoc]
          exact (List.Perm.append_left cells (List.perm_append_comm_assoc pre _ _)).trans (List.perm_append_comm_assoc cells _ _)
        have hled := hup r .state _ (Va.Le.refl _) ⟨a, d, S', e5, rfl, OK'⟩
        rw [upd_self e2] at hled
        have Co' : Core w C D r s m cells (pre ++ (StD.led S' a d ++ post)) := ⟨(hp'.map (·.1)).nodup_iff.mpr (by simpa [StD.led] using hnd), hled, Co.new, Co.slot, Co.cv, Co.cell, Co.scr⟩
        have N₁ : News g D.L h' (cells ++ ((pre ++ (StD.led S' a d ++ post)) ++ D.ext)) := fun p hm => N' p (sub p (List.mem_append_right _ (hp'.mem_iff.mp hm)))
        have I' : Inv w C D r s h' := ⟨g, m, cells, _, Gg, F', N₁, Co'⟩
        rcases item_way e3 hit with hk₁ | hk₁
        · obtain ⟨r', l, e, I₂⟩ := sym_inv (.val rv) I'
          exact kq r' _ _ _ h' tk' l hk₁ I₂ e
        · cases it with
          | none =>
            have hin : rv = .none := hin
            subst hin
            exact kq r .none s .none h' tk' (Va.Le.refl _) hk₁ I' rfl
          | int x =>
            obtain ⟨u, rfl⟩ := hin
            rcases hk₁ with hk₁ | ⟨hx, hb, hk₁⟩
            · exact kq r _ s _ h' tk' (Va.Le.refl _) hk₁ I' ⟨x, u, rfl, rfl⟩
            · obtain ⟨r', l, e, I₂⟩ := sym_inv (.num x) I'
              exact kq r' _ _ _ h' tk' l hk₁ I₂ ⟨x, u, ⟨e, hb, hx⟩, rfl⟩
          | str x =>
            obtain ⟨u, rfl⟩ := hin
            obtain ⟨y, rfl, hk₁⟩ := hk₁
            exact kq r _ s _ h' tk' (Va.Le.refl _) hk₁ I' ⟨mkS y, u, rfl, rfl⟩
          | rat n d₂ =>
            obtain ⟨b, t1, t2, rfl, hm, hlt⟩ := hin
            obtain ⟨hf, hka⟩ := alloc_some hk₁
            have N₂ : News g D.L h' ([(b, tupA #[.int n t1, .int d₂ t2] 0)] ++ (cells ++ ((pre ++ (StD.led S' a d ++ post)) ++ D.ext))) := fun p hp => by
              rcases List.mem_cons.mp hp with rfl | hp
              · exact N' _ (sub _ (List.mem_append_left _ hm))
              · exact N₁ p hp
            obtain ⟨r', l, e, I₂⟩ := alloc_inv (a := b) (d := 0) (o := .tup [.int (.lit n), .int (.lit d₂)]) Gg F' N₂ (by
              show (b :: (cells ++ ((pre ++ (StD.led S' a d ++ post)) ++ D.ext)).map (·.1)).Nodup
              rw [List.nodup_cons]
              refine ⟨fun hq => ?_, Co'.nd⟩
              obtain ⟨p, hp, e⟩ := List.mem_map.mp hq
              rcases List.mem_append.mp (hp'.mem_iff.mp hp) with hp | hp
              · have hb' := hab _ hm
                rcases List.mem_cons.mp hp with rfl | hp
                · exact absurd e (Nat.ne_of_lt hb')
                · rw [List.mem_singleton.mp hp] at e
                  exact absurd e (Nat.ne_of_lt (Nat.lt_trans OK'.hLt hb'))
              · exact absurd e (Nat.ne_of_lt (allLt_mem hlt p hp))) Co' fun r' l e => ⟨b, 0, [.int n t1, .int d₂ t2], 0, e, rfl, .cons ⟨n, t1, rfl, rfl⟩ (.cons ⟨d₂, t2, rfl, rfl⟩ .nil), by simp⟩
            exact kq r' _ _ _ h' tk' l hka I₂ ⟨b, 0, e, rfl⟩
      · cases e3
    · cases hk
  · cases hk
end
theorem kinds_of {ns : List Str} {scope : Scope} (h : (ns.all fun x => scope.names.lookup x == some .local || scope.names.lookup x == some .cell) = true) :
    ∀ x ∈ ns, scope.names.lookup x = some .local ∨ (scope.names.lookup x = some .cell ∧ ∀ L, ((cellsFrom (L + 1) scope.names []).lookup x).isSome = true) := fun x hx => by
  have k := fun n => kindsX (scope := scope) (binds := ns.map fun x => (x, Value.none)) (by
    rw [List.all_map]
    exact h) n (x, Value.none) (List.mem_map.mpr ⟨x, hx, rfl⟩)
  rcases k 0 with e | ⟨e, _⟩
  · exact .inl e
  · exact .inr ⟨e, fun L => ((k (L + 1)).resolve_left (by dsimp only; dsimp only at e; rw [e]; decide)).2⟩
section
variable {w : World} {mg mb : Str → Option Value} {means : ExcName → Option Value} {C : Cx}
theorem snd_bad {e : PySem.Expr} : SndX w mg mb means C xBad e := fun _ _ _ _ _ _ _ _ _ _ hk => by cases hk
end
theorem bind1 {P : List Value → Prop} (h : ∀ a, P [a]) : ∀ vals : List Value, vals.length = 1 → P vals
  | [a], _ => h a
theorem bind2 {P : List Value → Prop} (h : ∀ a b, P [a, b]) : ∀ vals : List Value, vals.length = 2 → P vals
  | [a, b], _ => h a b
theorem bind3 {P : List Value → Prop} (h : ∀ a b c, P [a, b, c]) : ∀ vals : List Value, vals.length = 3 → P vals
  | [a, b, c], _ => h a b c
theorem bind4 {P : List Value → Prop} (h : ∀ a b c d, P [a, b, c, d]) : ∀ vals : List Value, vals.length = 4 → P vals
  | [a, b, c, d], _ => h a b c d
section
local macro_rules | `(tactic| law_fin) => `(tactic| first | rfl | decide +kernel | (intros; rfl))
noncomputable def f28 : Sb := (blk [sIff (xCmp .is (xAttr (xLoc 0) 2) xNone) (blk [sRet xNone]) (blk []), sRet (xDget (xAttr (xLoc 0) 2) (xLoc 1))])
noncomputable def f108 : Sb := (blk [sRet (xOr [(xCmp .is (xLoc 0) xNone), (xAnd [(xCmp .eq (xSub (xLoc 0) (xInt 0)) (xInt 0)), (xCmp .eq (xSub (xLoc 0) (xInt 1)) (xInt 0))])])])
noncomputable def f433 : Sb := (blk [sIff (xIsI (xLoc 0)) (blk [sAsgA (xLoc 0) 3 (xBool true)]) (blk []), sRet (xLoc 0)])
noncomputable def f426 : Sb := (blk [sRet (xCmp .isin (xAttr (xLoc 0) 0) (xTup [(xStr [108, 111, 103, 105, 99, 97, 108]), (xStr [105, 110, 116, 101, 103, 101, 114]), (xStr [100, 111, 117, 98, 108, 101]), (xStr [99, 104, 97, 114, 97, 99, 116, 101, 114])]))])
noncomputable def f412 : Sb := (blk [sRet (xCls 314 [(xStr [99, 104, 97, 114, 97, 99, 116, 101, 114]), (xLst (xLoc 0))])])
noncomputable def f503 : Sb := (blk [sRet (xCmp .isin (xLoc 0) (xTup [(xStr [108, 111, 103, 105, 99, 97, 108]), (xStr [105, 110, 116, 101, 103, 101, 114]), (xStr [100, 111, 117, 98, 108, 101]), (xStr [99, 104, 97, 114, 97, 99, 116, 101, 114])]))])
noncomputable def f447 : Sb := (blk [sIff (xCmp .isin (xLoc 0) (xTup [(xStr [84]), (xStr [84, 82, 85, 69]), (xStr [116, 114, 117, 101]), (xStr [84, 114, 117, 101])])) (blk [sRet (xInt 1)]) (blk []), sIff (xCmp .isin (xLoc 0) (xTup [(xStr [70]), (xStr [70, 65, 76, 83, 69]), (xStr [102, 97, 108, 115, 101]), (xStr [70, 97, 108, 115, 101])])) (blk [sRet (xInt 0)]) (blk []), sRet xNone])
section
variable (w : World) (mg mb : Str → Option Value) (means : ExcName → Option Value)
theorem s28 : SndF w mg mb means 28 2 1 (callF 2 f28) := by
  refine fn_snd (lev := 1) (ns := [Str.ofString "v", Str.ofString "name"]) ?hb ?hns (by k_is) (by k_is) ?hbind ?hkind ?hnd ?hap ?hnp ?hco ?hgen ?hk
  case hns => decide +kernel
  case hbind => exact fun s => bind2 fun a0 a1 => BindsTo.of_eq rfl
  case hkind => exact kinds_of (by decide +kernel)
  case hnd => decide +kernel
  case hap => (intro L; first | exact List.Pairwise.nil | (simp [cellsFrom]; done) | (simp [cellsFrom]; omega))
  case hnp => decide
  case hco => rfl
  case hgen => rfl
  case hk => rfl
  case hb =>
    exact (@sndb_cons _ _ _ _ _ _ _ _ _ (@snds_if _ _ _ _ _ _ _ _ _ _ _ _ (@sndT_cmp _ _ _ _ _ _ _ _ _ _ _ _ cmp_is (@snd_attr _ _ _ _ _ _ _ _ _ _ (@snd_loc _ _ _ _ _ _ _ (i := 0) rfl rfl (by law_fin)) n_attrs (by law_fin)) (@snd_none _ _ _ _ _ _ _) (by law_fin)) (@sndb_cons _ _ _ _ _ _ _ _ _ (@snds_ret _ _ _ _ _ _ _ _ (@snd_none _ _ _ _ _ _ _))
      (@sndb_nil _ _ _ _ _)) (@sndb_nil _ _ _ _ _))
      (@sndb_cons _ _ _ _ _ _ _ _ _ (@snds_ret _ _ _ _ _ _ _ _ (@snd_dget _ _ _ _ _ _ _ _ _ _ _ (@snd_attr _ _ _ _ _ _ _ _ _ _ (@snd_loc _ _ _ _ _ _ _ (i := 0) rfl rfl (by law_fin)) n_attrs (by law_fin)) (@snd_loc _ _ _ _ _ _ _ (i := 1) rfl rfl (by law_fin)) (fun _ => rfl) (fun _ => rfl) (by law_fin)))
      (@sndb_nil _ _ _ _ _)))

theorem s108 : SndF w mg mb means 108 1 1 (callF 1 f108) := by
  refine fn_snd (lev := 1) (ns := [Str.ofString "x"]) ?hb ?hns (by k_is) (by k_is) ?hbind ?hkind ?hnd ?hap ?hnp ?hco ?hgen ?hk
  case hns => decide +kernel
  case hbind => exact fun s => bind1 fun a0 => BindsTo.of_eq rfl
  case hkind => exact kinds_of (by decide +kernel)
  case hnd => decide +kernel
  case hap => (intro L; first | exact List.Pairwise.nil | (simp [cellsFrom]; done) | (simp [cellsFrom]; omega))
  case hnp => decide
  case hco => rfl
  case hgen => rfl
  case hk => rfl
  case hb =>
    exact (@sndb_cons _ _ _ _ _ _ _ _ _ (@snds_ret _ _ _ _ _ _ _ _ (@snd_or _ _ _ _ _ _ _ _ _ _ _ _ (@snd_cmp _ _ _ _ _ _ _ _ _ _ _ _ cmp_is (@snd_loc _ _ _ _ _ _ _ (i := 0) rfl rfl (by law_fin)) (@snd_none _ _ _ _ _ _ _) (by law_fin)) (@snd_or1 _ _ _ _ _ _ _ _ (@snd_and _ _ _ _ _ _ _ _ _ _ _ _ (@snd_cmp _ _ _ _ _ _ _ _ _ _ _ _ cmp_eq (@snd_sub _ _ _ _ _ _ _ _ _ _ (@snd_loc _ _ _ _ _ _ _ (i := 0) rfl rfl (by law_fin)) (@snd_int _ _ _ _ _ _ _ _) (fun _ _ _ => rfl)) (@snd_int _ _ _ _ _ _ _ _) (by law_fin)) (@snd_and1 _ _ _ _ _ _ _ _ (@snd_cmp _ _ _ _ _ _ _ _ _ _ _ _ cmp_eq (@snd_sub _ _ _ _ _ _ _ _ _ _ (@snd_loc _ _ _ _ _ _ _ (i := 0) rfl rfl (by law_fin)) (@snd_int _ _ _ _ _ _ _ _) (fun _ _ _ => rfl)) (@snd_int _ _ _ _ _ _ _ _) (by law_fin)))))))
      (@sndb_nil _ _ _ _ _))

theorem s433 : SndF w mg mb means 433 1 1 (callF 1 f433) := by
  refine fn_snd (lev := 1) (ns := [Str.ofString "v"]) ?hb ?hns (by k_is) (by k_is) ?hbind ?hkind ?hnd ?hap ?hnp ?hco ?hgen ?hk
  case hns => decide +kernel
  case hbind => exact fun s => bind1 fun a0 => BindsTo.of_eq rfl
  case hkind => exact kinds_of (by decide +kernel)
  case hnd => decide +kernel
  case hap => (intro L; first | exact List.Pairwise.nil | (simp [cellsFrom]; done) | (simp [cellsFrom]; omega))
  case hnp => decide
  case hco => rfl
  case hgen => rfl
  case hk => rfl
  case hb =>
    exact (@sndb_cons _ _ _ _ _ _ _ _ _ (@snds_if _ _ _ _ _ _ _ _ _ _ _ _ (@sndT_plain _ _ _ _ _ _ _ (@snd_isI _ _ _ _ _ _ _ _ _ _ _ _ (gb_isinstance _) (gf_Vector _) (by law_fin) (by law_fin) (by law_fin) (by law_fin) (@snd_loc _ _ _ _ _ _ _ (i := 0) rfl rfl (by law_fin)) (fun _ => rfl) (fun _ => rfl)) (fun _ _ => rfl)) (@sndb_cons _ _ _ _ _ _ _ _ _ (@snds_asgP _ _ _ _ _ _ _ _ _ _ _ _ _ (.inr trivial) (@snd_bool _ _ _ _ _ _ _ _) (@snd_loc _ _ _ _ _ _ _ (i := 0) rfl rfl (by law_fin)) n_shared (fun _ => rfl))
      (@sndb_nil _ _ _ _ _)) (@sndb_nil _ _ _ _ _))
      (@sndb_cons _ _ _ _ _ _ _ _ _ (@snds_ret _ _ _ _ _ _ _ _ (@snd_loc _ _ _ _ _ _ _ (i := 0) rfl rfl (by law_fin)))
      (@sndb_nil _ _ _ _ _)))

theorem s426 : SndF w mg mb means 426 1 1 (callF 1 f426) := by
  refine fn_snd (lev := 1) (ns := [Str.ofString "v"]) ?hb ?hns (by k_is) (by k_is) ?hbind ?hkind ?hnd ?hap ?hnp ?hco ?hgen ?hk
  case hns => decide +kernel
  case hbind => exact fun s => bind1 fun a0 => BindsTo.of_eq rfl
  case hkind => exact kinds_of (by decide +kernel)
  case hnd => decide +kernel
  case hap => (intro L; first | exact List.Pairwise.nil | (simp [cellsFrom]; done) | (simp [cellsFrom]; omega))
  case hnp => decide
  case hco => rfl
  case hgen => rfl
  case hk => rfl
  case hb =>
    exact (@sndb_cons _ _ _ _ _ _ _ _ _ (@snds_ret _ _ _ _ _ _ _ _ (@snd_cmp _ _ _ _ _ _ _ _ _ _ _ _ cmp_in (@snd_attr _ _ _ _ _ _ _ _ _ _ (@snd_loc _ _ _ _ _ _ _ (i := 0) rfl rfl (by law_fin)) n_kind (by law_fin)) (@snd_tup _ _ _ _ _ _ _ _ _ (@snds_cons _ _ _ _ _ _ _ _ _ (@snd_str _ _ _ _ _ _ _ _ _ (by law_fin)) (@snds_cons _ _ _ _ _ _ _ _ _ (@snd_str _ _ _ _ _ _ _ _ _ (by law_fin)) (@snds_cons _ _ _ _ _ _ _ _ _ (@snd_str _ _ _ _ _ _ _ _ _ (by law_fin)) (@snds_cons _ _ _ _ _ _ _ _ _ (@snd_str _ _ _ _ _ _ _ _ _ (by law_fin)) (@snds_nil _ _ _ _ _) (by law_fin)) (by law_fin)) (by law_fin)) (by law_fin))) (by law_fin)))
      (@sndb_nil _ _ _ _ _))

theorem s412 : SndF w mg mb means 412 1 4 (callF 1 f412) := by
  refine fn_snd (lev := 4) (ns := [Str.ofString "items"]) ?hb ?hns (by k_is) (by k_is) ?hbind ?hkind ?hnd ?hap ?hnp ?hco ?hgen ?hk
  case hns => decide +kernel
  case hbind => exact fun s => bind1 fun a0 => BindsTo.of_eq rfl
  case hkind => exact kinds_of (by decide +kernel)
  case hnd => decide +kernel
  case hap => (intro L; first | exact List.Pairwise.nil | (simp [cellsFrom]; done) | (simp [cellsFrom]; omega))
  case hnp => decide
  case hco => rfl
  case hgen => rfl
  case hk => rfl
  case hb =>
    exact (@sndb_cons _ _ _ _ _ _ _ _ _ (@snds_ret _ _ _ _ _ _ _ _ (@snd_call _ _ _ _ _ _ _ _ _ _ _ _ _ _ _ (@mkn_vec _ _ _ _) (by law_fin) (by law_fin) (gf_Vector _) (by law_fin) (by law_fin) rfl (@snds_cons _ _ _ _ _ _ _ _ _ (@snd_str _ _ _ _ _ _ _ _ _ (by law_fin)) (@snds_cons _ _ _ _ _ _ _ _ _ (@snd_bi _ _ _ _ _ _ _ _ _ _ _ _ bi_lst rfl (gb_list _) (.inr ⟨_, rfl⟩) (by law_fin) (by law_fin) (@snd_loc _ _ _ _ _ _ _ (i := 0) rfl rfl (by law_fin)) (fun _ => rfl)) (@snds_nil _ _ _ _ _) (by law_fin)) (by law_fin)) (by law_fin) (fun _ _ => rfl)))
      (@sndb_nil _ _ _ _ _))

theorem s503 : SndF w mg mb means 503 1 1 (callF 1 f503) := by
  refine fn_snd (lev := 1) (ns := [Str.ofString "kind"]) ?hb ?hns (by k_is) (by k_is) ?hbind ?hkind ?hnd ?hap ?hnp ?hco ?hgen ?hk
  case hns => decide +kernel
  case hbind => exact fun s => bind1 fun a0 => BindsTo.of_eq rfl
  case hkind => exact kinds_of (by decide +kernel)
  case hnd => decide +kernel
  case hap => (intro L; first | exact List.Pairwise.nil | (simp [cellsFrom]; done) | (simp [cellsFrom]; omega))
  case hnp => decide
  case hco => rfl
  case hgen => rfl
  case hk => rfl
  case hb =>
    exact (@sndb_cons _ _ _ _ _ _ _ _ _ (@snds_ret _ _ _ _ _ _ _ _ (@snd_cmp _ _ _ _ _ _ _ _ _ _ _ _ cmp_in (@snd_loc _ _ _ _ _ _ _ (i := 0) rfl rfl (by law_fin)) (@snd_tup _ _ _ _ _ _ _ _ _ (@snds_cons _ _ _ _ _ _ _ _ _ (@snd_str _ _ _ _ _ _ _ _ _ (by law_fin)) (@snds_cons _ _ _ _ _ _ _ _ _ (@snd_str _ _ _ _ _ _ _ _ _ (by law_fin)) (@snds_cons _ _ _ _ _ _ _ _ _ (@snd_str _ _ _ _ _ _ _ _ _ (by law_fin)) (@snds_cons _ _ _ _ _ _ _ _ _ (@snd_str _ _ _ _ _ _ _ _ _ (by law_fin)) (@snds_nil _ _ _ _ _) (by law_fin)) (by law_fin)) (by law_fin)) (by law_fin))) (by law_fin)))
      (@sndb_nil _ _ _ _ _))

theorem s447 : SndF w mg mb means 447 1 1 (callF 1 f447) := by
  refine fn_snd (lev := 1) (ns := [Str.ofString "s"]) ?hb ?hns (by k_is) (by k_is) ?hbind ?hkind ?hnd ?hap ?hnp ?hco ?hgen ?hk
  case hns => decide +kernel
  case hbind => exact fun s => bind1 fun a0 => BindsTo.of_eq rfl
  case hkind => exact kinds_of (by decide +kernel)
  case hnd => decide +kernel
  case hap => (intro L; first | exact List.Pairwise.nil | (simp [cellsFrom]; done) | (simp [cellsFrom]; omega))
  case hnp => decide
  case hco => rfl
  case hgen => rfl
  case hk => rfl
  case hb =>
    exact (@sndb_cons _ _ _ _ _ _ _ _ _ (@snds_if _ _ _ _ _ _ _ _ _ _ _ _ (@sndT_cmp _ _ _ _ _ _ _ _ _ _ _ _ cmp_in (@snd_loc _ _ _ _ _ _ _ (i := 0) rfl rfl (by law_fin)) (@snd_tup _ _ _ _ _ _ _ _ _ (@snds_cons _ _ _ _ _ _ _ _ _ (@snd_str _ _ _ _ _ _ _ _ _ (by law_fin)) (@snds_cons _ _ _ _ _ _ _ _ _ (@snd_str _ _ _ _ _ _ _ _ _ (by law_fin)) (@snds_cons _ _ _ _ _ _ _ _ _ (@snd_str _ _ _ _ _ _ _ _ _ (by law_fin)) (@snds_cons _ _ _ _ _ _ _ _ _ (@snd_str _ _ _ _ _ _ _ _ _ (by law_fin)) (@snds_nil _ _ _ _ _) (by law_fin)) (by law_fin)) (by law_fin)) (by law_fin))) (by law_fin)) (@sndb_cons _ _ _ _ _ _ _ _ _ (@snds_ret _ _ _ _ _ _ _ _ (@snd_int _ _ _ _ _ _ _ _))
      (@sndb_nil _ _ _ _ _)) (@sndb_nil _ _ _ _ _))
      (@sndb_cons _ _ _ _ _ _ _ _ _ (@snds_if _ _ _ _ _ _ _ _ _ _ _ _ (@sndT_cmp _ _ _ _ _ _ _ _ _ _ _ _ cmp_in (@snd_loc _ _ _ _ _ _ _ (i := 0) rfl rfl (by law_fin)) (@snd_tup _ _ _ _ _ _ _ _ _ (@snds_cons _ _ _ _ _ _ _ _ _ (@snd_str _ _ _ _ _ _ _ _ _ (by law_fin)) (@snds_cons _ _ _ _ _ _ _ _ _ (@snd_str _ _ _ _ _ _ _ _ _ (by law_fin)) (@snds_cons _ _ _ _ _ _ _ _ _ (@snd_str _ _ _ _ _ _ _ _ _ (by law_fin)) (@snds_cons _ _ _ _ _ _ _ _ _ (@snd_str _ _ _ _ _ _ _ _ _ (by law_fin)) (@snds_nil _ _ _ _ _) (by law_fin)) (by law_fin)) (by law_fin)) (by law_fin))) (by law_fin)) (@sndb_cons _ _ _ _ _ _ _ _ _ (@snds_ret _ _ _ _ _ _ _ _ (@snd_int _ _ _ _ _ _ _ _))
      (@sndb_nil _ _ _ _ _)) (@sndb_nil _ _ _ _ _))
      (@sndb_cons _ _ _ _ _ _ _ _ _ (@snds_ret _ _ _ _ _ _ _ _ (@snd_none _ _ _ _ _ _ _))
      (@sndb_nil _ _ _ _ _))))

end
noncomputable def f40 : Sb := (blk [sAsg 1 (xFn 2 f28 [(xLoc 0), (xStr [100, 105, 109])]), sIff (xCmp .is (xLoc 1) xNone) (blk [sRet xNone]) (blk []), sRet (xLst (xAttr (xLoc 1) 1))])
noncomputable def f419 : Sb := (blk [sAsg 1 (xAttr (xLoc 0) 0), sIff (xCmp .eq (xLoc 1) (xStr [78, 85, 76, 76])) (blk [sRet (xInt 0)]) (blk []), sIff (xOr [(xIsI (xLoc 0)), (xCmp .eq (xLoc 1) (xStr [108, 97, 110, 103, 117, 97, 103, 101]))]) (blk [sRet (xLen (xAttr (xLoc 0) 1))]) (blk []), sIff (xCmp .eq (xLoc 1) (xStr [101, 110, 118, 105, 114, 111, 110, 109, 101, 110, 116])) (blk [sRet (xLen (xAttr (xLoc 0) 13))]) (blk []), sIff (xCmp .eq (xLoc 1) (xStr [100, 111, 116, 115])) (blk [sRet (xLen xBad)]) (blk []), sRet (xInt 1)])
noncomputable def f468 : Sb := (blk [sIff (xCmp .eq (xLoc 0) (xStr [99, 104, 97, 114, 97, 99, 116, 101, 114])) (blk [sRet (xIfe (xCmp .is (xLoc 1) xNone) xNone (xFn 1 f447 [(xLoc 1)]))]) (blk []), sIff (xCmp .eq (xLoc 0) (xStr [100, 111, 117, 98, 108, 101])) (blk [sIff (xFn 1 f108 [(xLoc 1)]) (blk [sRet xNone]) (blk []), sRet (xIfe (xAnd [(xCmp .eq (xSub (xLoc 1) (xInt 0)) (xInt 0)), (xCmp .eq (xSub (xLoc 1) (xInt 1)) (xInt 1))]) (xInt 0) (xInt 1))]) (blk []), sIff (xCmp .is (xLoc 1) xNone) (blk [sRet xNone]) (blk []), sRet (xIfe (xCmp .eq (xLoc 1) (xInt 0)) (xInt 0) (xInt 1))])
noncomputable def f489 : Sb := (blk [sIff (xOr [(xCmp .is (xLoc 1) xNone), (xCmp .eq (xLoc 0) (xStr [99, 104, 97, 114, 97, 99, 116, 101, 114]))]) (blk [sRet (xLoc 1)]) (blk []), sIff (xCmp .eq (xLoc 0) (xStr [108, 111, 103, 105, 99, 97, 108])) (blk [sRet (xIfe (xCmp .eq (xLoc 1) (xInt 1)) (xStr [84, 82, 85, 69]) (xStr [70, 65, 76, 83, 69]))]) (blk []), sIff (xCmp .eq (xLoc 0) (xStr [105, 110, 116, 101, 103, 101, 114])) (blk [sRet (xStrf (xLoc 1))]) (blk []), sRet xBad])
noncomputable def f596 : Sb := (blk [sIff (xCmp .eq (xAttr (xLoc 0) 0) (xStr [78, 85, 76, 76])) (blk [sRet (xInt 0)]) (blk []), sIff (xCmp .eq (xAttr (xLoc 0) 0) (xStr [101, 110, 118, 105, 114, 111, 110, 109, 101, 110, 116])) (blk [sRet (xLen (xAttr (xLoc 0) 13))]) (blk []), sIff (xOr [(xCmp .eq (xAttr (xLoc 0) 0) (xStr [115, 121, 109, 98, 111, 108])), (xCmp .eq (xAttr (xLoc 0) 0) (xStr [99, 108, 111, 115, 117, 114, 101]))]) (blk [sRet (xInt 1)]) (blk []), sRet (xLen (xAttr (xLoc 0) 1))])
noncomputable def f529 : Sb := (blk [sIff (xCmp .isnt (xLoc 1) xNone) (blk [sAsgA (xLoc 0) 2 (xDict1 [110, 97, 109, 101, 115] (xFn 1 f433 [(xFn 1 f412 [(xLoc 1)])]))]) (blk []), sRet (xLoc 0)])
section
variable (w : World) (mg mb : Str → Option Value) (means : ExcName → Option Value)
theorem s40 : SndF w mg mb means 40 1 2 (callF 2 f40) := by
  refine fn_snd (lev := 2) (ns := [Str.ofString "v", Str.ofString "dims"]) ?hb ?hns (by k_is) (by k_is) ?hbind ?hkind ?hnd ?hap ?hnp ?hco ?hgen ?hk
  case hns => decide +kernel
  case hbind => exact fun s => bind1 fun a0 => BindsTo.of_eq rfl
  case hkind => exact kinds_of (by decide +kernel)
  case hnd => decide +kernel
  case hap => (intro L; first | exact List.Pairwise.nil | (simp [cellsFrom]; done) | (simp [cellsFrom]; omega))
  case hnp => decide
  case hco => rfl
  case hgen => rfl
  case hk => rfl
  case hb =>
    exact (@sndb_cons _ _ _ _ _ _ _ _ _ (@snds_asg _ _ _ _ _ _ _ _ _ _ _ rfl rfl (@snd_call _ _ _ _ _ _ _ _ _ _ _ _ _ _ _ (@s28 w mg mb means) (by law_fin) (by law_fin) (gf_get_attr _) (by law_fin) (by law_fin) rfl (@snds_cons _ _ _ _ _ _ _ _ _ (@snd_loc _ _ _ _ _ _ _ (i := 0) rfl rfl (by law_fin)) (@snds_cons _ _ _ _ _ _ _ _ _ (@snd_str _ _ _ _ _ _ _ _ _ (by law_fin)) (@snds_nil _ _ _ _ _) (by law_fin)) (by law_fin)) (by law_fin) (fun _ _ => rfl)) (.inl (by law_fin)) (fun _ => rfl))
      (@sndb_cons _ _ _ _ _ _ _ _ _ (@snds_if _ _ _ _ _ _ _ _ _ _ _ _ (@sndT_cmp _ _ _ _ _ _ _ _ _ _ _ _ cmp_is (@snd_loc _ _ _ _ _ _ _ (i := 1) rfl rfl (by law_fin)) (@snd_none _ _ _ _ _ _ _) (by law_fin)) (@sndb_cons _ _ _ _ _ _ _ _ _ (@snds_ret _ _ _ _ _ _ _ _ (@snd_none _ _ _ _ _ _ _))
      (@sndb_nil _ _ _ _ _)) (@sndb_nil _ _ _ _ _))
      (@sndb_cons _ _ _ _ _ _ _ _ _ (@snds_ret _ _ _ _ _ _ _ _ (@snd_bi _ _ _ _ _ _ _ _ _ _ _ _ bi_lst rfl (gb_list _) (.inr ⟨_, rfl⟩) (by law_fin) (by law_fin) (@snd_attr _ _ _ _ _ _ _ _ _ _ (@snd_loc _ _ _ _ _ _ _ (i := 1) rfl rfl (by law_fin)) n_items (by law_fin)) (fun _ => rfl)))
      (@sndb_nil _ _ _ _ _))))

theorem s419 : SndF w mg mb means 419 1 1 (callF 2 f419) := by
  refine fn_snd (lev := 1) (ns := [Str.ofString "v", Str.ofString "kind"]) ?hb ?hns (by k_is) (by k_is) ?hbind ?hkind ?hnd ?hap ?hnp ?hco ?hgen ?hk
  case hns => decide +kernel
  case hbind => exact fun s => bind1 fun a0 => BindsTo.of_eq rfl
  case hkind => exact kinds_of (by decide +kernel)
  case hnd => decide +kernel
  case hap => (intro L; first | exact List.Pairwise.nil | (simp [cellsFrom]; done) | (simp [cellsFrom]; omega))
  case hnp => decide
  case hco => rfl
  case hgen => rfl
  case hk => rfl
  case hb =>
    exact (@sndb_cons _ _ _ _ _ _ _ _ _ (@snds_asg _ _ _ _ _ _ _ _ _ _ _ rfl rfl (@snd_attr _ _ _ _ _ _ _ _ _ _ (@snd_loc _ _ _ _ _ _ _ (i := 0) rfl rfl (by law_fin)) n_kind (by law_fin)) (.inl (by law_fin)) (fun _ => rfl))
      (@sndb_cons _ _ _ _ _ _ _ _ _ (@snds_if _ _ _ _ _ _ _ _ _ _ _ _ (@sndT_cmp _ _ _ _ _ _ _ _ _ _ _ _ cmp_eq (@snd_loc _ _ _ _ _ _ _ (i := 1) rfl rfl (by law_fin)) (@snd_str _ _ _ _ _ _ _ _ _ (by law_fin)) (by law_fin)) (@sndb_cons _ _ _ _ _ _ _ _ _ (@snds_ret _ _ _ _ _ _ _ _ (@snd_int _ _ _ _ _ _ _ _))
      (@sndb_nil _ _ _ _ _)) (@sndb_nil _ _ _ _ _))
      (@sndb_cons _ _ _ _ _ _ _ _ _ (@snds_if _ _ _ _ _ _ _ _ _ _ _ _ (@sndT_or _ _ _ _ _ _ _ _ _ _ _ (@sndT_plain _ _ _ _ _ _ _ (@snd_isI _ _ _ _ _ _ _ _ _ _ _ _ (gb_isinstance _) (gf_Vector _) (by law_fin) (by law_fin) (by law_fin) (by law_fin) (@snd_loc _ _ _ _ _ _ _ (i := 0) rfl rfl (by law_fin)) (fun _ => rfl) (fun _ => rfl)) (fun _ _ => rfl)) (@sndT_or1 _ _ _ _ _ _ _ _ (@sndT_cmp _ _ _ _ _ _ _ _ _ _ _ _ cmp_eq (@snd_loc _ _ _ _ _ _ _ (i := 1) rfl rfl (by law_fin)) (@snd_str _ _ _ _ _ _ _ _ _ (by law_fin)) (by law_fin)))) (@sndb_cons _ _ _ _ _ _ _ _ _ (@snds_ret _ _ _ _ _ _ _ _ (@snd_bi _ _ _ _ _ _ _ _ _ _ _ _ bi_len rfl (gb_len _) (.inl ⟨_, rfl⟩) (by law_fin) (by law_fin) (@snd_attr _ _ _ _ _ _ _ _ _ _ (@snd_loc _ _ _ _ _ _ _ (i := 0) rfl rfl (by law_fin)) n_items (by law_fin)) (fun _ => rfl)))
      (@sndb_nil _ _ _ _ _)) (@sndb_nil _ _ _ _ _))
      (@sndb_cons _ _ _ _ _ _ _ _ _ (@snds_if _ _ _ _ _ _ _ _ _ _ _ _ (@sndT_cmp _ _ _ _ _ _ _ _ _ _ _ _ cmp_eq (@snd_loc _ _ _ _ _ _ _ (i := 1) rfl rfl (by law_fin)) (@snd_str _ _ _ _ _ _ _ _ _ (by law_fin)) (by law_fin)) (@sndb_cons _ _ _ _ _ _ _ _ _ (@snds_ret _ _ _ _ _ _ _ _ (@snd_bi _ _ _ _ _ _ _ _ _ _ _ _ bi_len rfl (gb_len _) (.inl ⟨_, rfl⟩) (by law_fin) (by law_fin) (@snd_attr _ _ _ _ _ _ _ _ _ _ (@snd_loc _ _ _ _ _ _ _ (i := 0) rfl rfl (by law_fin)) n_frame (by law_fin)) (fun _ => rfl)))
      (@sndb_nil _ _ _ _ _)) (@sndb_nil _ _ _ _ _))
      (@sndb_cons _ _ _ _ _ _ _ _ _ (@snds_if _ _ _ _ _ _ _ _ _ _ _ _ (@sndT_cmp _ _ _ _ _ _ _ _ _ _ _ _ cmp_eq (@snd_loc _ _ _ _ _ _ _ (i := 1) rfl rfl (by law_fin)) (@snd_str _ _ _ _ _ _ _ _ _ (by law_fin)) (by law_fin)) (@sndb_cons _ _ _ _ _ _ _ _ _ (@snds_ret _ _ _ _ _ _ _ _ (@snd_bi _ _ _ _ _ _ _ _ _ _ _ _ bi_len rfl (gb_len _) (.inl ⟨_, rfl⟩) (by law_fin) (by law_fin) (@snd_bad _ _ _ _ _ _) (fun _ => rfl)))
      (@sndb_nil _ _ _ _ _)) (@sndb_nil _ _ _ _ _))
      (@sndb_cons _ _ _ _ _ _ _ _ _ (@snds_ret _ _ _ _ _ _ _ _ (@snd_int _ _ _ _ _ _ _ _))
      (@sndb_nil _ _ _ _ _)))))))

theorem s468 : SndF w mg mb means 468 2 2 (callF 2 f468) := by
  refine fn_snd (lev := 2) (ns := [Str.ofString "kind", Str.ofString "item"]) ?hb ?hns (by k_is) (by k_is) ?hbind ?hkind ?hnd ?hap ?hnp ?hco ?hgen ?hk
  case hns => decide +kernel
  case hbind => exact fun s => bind2 fun a0 a1 => BindsTo.of_eq rfl
  case hkind => exact kinds_of (by decide +kernel)
  case hnd => decide +kernel
  case hap => (intro L; first | exact List.Pairwise.nil | (simp [cellsFrom]; done) | (simp [cellsFrom]; omega))
  case hnp => decide
  case hco => rfl
  case hgen => rfl
  case hk => rfl
  case hb =>
    exact (@sndb_cons _ _ _ _ _ _ _ _ _ (@snds_if _ _ _ _ _ _ _ _ _ _ _ _ (@sndT_cmp _ _ _ _ _ _ _ _ _ _ _ _ cmp_eq (@snd_loc _ _ _ _ _ _ _ (i := 0) rfl rfl (by law_fin)) (@snd_str _ _ _ _ _ _ _ _ _ (by law_fin)) (by law_fin)) (@sndb_cons _ _ _ _ _ _ _ _ _ (@snds_ret _ _ _ _ _ _ _ _ (@snd_ife _ _ _ _ _ _ _ _ _ _ _ _ (@sndT_cmp _ _ _ _ _ _ _ _ _ _ _ _ cmp_is (@snd_loc _ _ _ _ _ _ _ (i := 1) rfl rfl (by law_fin)) (@snd_none _ _ _ _ _ _ _) (by law_fin)) (@snd_none _ _ _ _ _ _ _) (@snd_call _ _ _ _ _ _ _ _ _ _ _ _ _ _ _ (@s447 w mg mb means) (by law_fin) (by law_fin) (gf_as_logical_text _) (by law_fin) (by law_fin) rfl (@snds_cons _ _ _ _ _ _ _ _ _ (@snd_loc _ _ _ _ _ _ _ (i := 1) rfl rfl (by law_fin)) (@snds_nil _ _ _ _ _) (by law_fin)) (by law_fin) (fun _ _ => rfl))))
      (@sndb_nil _ _ _ _ _)) (@sndb_nil _ _ _ _ _))
      (@sndb_cons _ _ _ _ _ _ _ _ _ (@snds_if _ _ _ _ _ _ _ _ _ _ _ _ (@sndT_cmp _ _ _ _ _ _ _ _ _ _ _ _ cmp_eq (@snd_loc _ _ _ _ _ _ _ (i := 0) rfl rfl (by law_fin)) (@snd_str _ _ _ _ _ _ _ _ _ (by law_fin)) (by law_fin)) (@sndb_cons _ _ _ _ _ _ _ _ _ (@snds_if _ _ _ _ _ _ _ _ _ _ _ _ (@sndT_plain _ _ _ _ _ _ _ (@snd_call _ _ _ _ _ _ _ _ _ _ _ _ _ _ _ (@s108 w mg mb means) (by law_fin) (by law_fin) (gf_is_na _) (by law_fin) (by law_fin) rfl (@snds_cons _ _ _ _ _ _ _ _ _ (@snd_loc _ _ _ _ _ _ _ (i := 1) rfl rfl (by law_fin)) (@snds_nil _ _ _ _ _) (by law_fin)) (by law_fin) (fun _ _ => rfl)) (fun _ _ => rfl)) (@sndb_cons _ _ _ _ _ _ _ _ _ (@snds_ret _ _ _ _ _ _ _ _ (@snd_none _ _ _ _ _ _ _))
      (@sndb_nil _ _ _ _ _)) (@sndb_nil _ _ _ _ _))
      (@sndb_cons _ _ _ _ _ _ _ _ _ (@snds_ret _ _ _ _ _ _ _ _ (@snd_ife _ _ _ _ _ _ _ _ _ _ _ _ (@sndT_and _ _ _ _ _ _ _ _ _ _ _ (@sndT_cmp _ _ _ _ _ _ _ _ _ _ _ _ cmp_eq (@snd_sub _ _ _ _ _ _ _ _ _ _ (@snd_loc _ _ _ _ _ _ _ (i := 1) rfl rfl (by law_fin)) (@snd_int _ _ _ _ _ _ _ _) (fun _ _ _ => rfl)) (@snd_int _ _ _ _ _ _ _ _) (by law_fin)) (@sndT_and1 _ _ _ _ _ _ _ _ (@sndT_cmp _ _ _ _ _ _ _ _ _ _ _ _ cmp_eq (@snd_sub _ _ _ _ _ _ _ _ _ _ (@snd_loc _ _ _ _ _ _ _ (i := 1) rfl rfl (by law_fin)) (@snd_int _ _ _ _ _ _ _ _) (fun _ _ _ => rfl)) (@snd_int _ _ _ _ _ _ _ _) (by law_fin)))) (@snd_int _ _ _ _ _ _ _ _) (@snd_int _ _ _ _ _ _ _ _)))
      (@sndb_nil _ _ _ _ _))) (@sndb_nil _ _ _ _ _))
      (@sndb_cons _ _ _ _ _ _ _ _ _ (@snds_if _ _ _ _ _ _ _ _ _ _ _ _ (@sndT_cmp _ _ _ _ _ _ _ _ _ _ _ _ cmp_is (@snd_loc _ _ _ _ _ _ _ (i := 1) rfl rfl (by law_fin)) (@snd_none _ _ _ _ _ _ _) (by law_fin)) (@sndb_cons _ _ _ _ _ _ _ _ _ (@snds_ret _ _ _ _ _ _ _ _ (@snd_none _ _ _ _ _ _ _))
      (@sndb_nil _ _ _ _ _)) (@sndb_nil _ _ _ _ _))
      (@sndb_cons _ _ _ _ _ _ _ _ _ (@snds_ret _ _ _ _ _ _ _ _ (@snd_ife _ _ _ _ _ _ _ _ _ _ _ _ (@sndT_cmp _ _ _ _ _ _ _ _ _ _ _ _ cmp_eq (@snd_loc _ _ _ _ _ _ _ (i := 1) rfl rfl (by law_fin)) (@snd_int _ _ _ _ _ _ _ _) (by law_fin)) (@snd_int _ _ _ _ _ _ _ _) (@snd_int _ _ _ _ _ _ _ _)))
      (@sndb_nil _ _ _ _ _)))))

theorem s489 : SndF w mg mb means 489 2 1 (callF 2 f489) := by
  refine fn_snd (lev := 1) (ns := [Str.ofString "kind", Str.ofString "item"]) ?hb ?hns (by k_is) (by k_is) ?hbind ?hkind ?hnd ?hap ?hnp ?hco ?hgen ?hk
  case hns => decide +kernel
  case hbind => exact fun s => bind2 fun a0 a1 => BindsTo.of_eq rfl
  case hkind => exact kinds_of (by decide +kernel)
  case hnd => decide +kernel
  case hap => (intro L; first | exact List.Pairwise.nil | (simp [cellsFrom]; done) | (simp [cellsFrom]; omega))
  case hnp => decide
  case hco => rfl
  case hgen => rfl
  case hk => rfl
  case hb =>
    exact (@sndb_cons _ _ _ _ _ _ _ _ _ (@snds_if _ _ _ _ _ _ _ _ _ _ _ _ (@sndT_or _ _ _ _ _ _ _ _ _ _ _ (@sndT_cmp _ _ _ _ _ _ _ _ _ _ _ _ cmp_is (@snd_loc _ _ _ _ _ _ _ (i := 1) rfl rfl (by law_fin)) (@snd_none _ _ _ _ _ _ _) (by law_fin)) (@sndT_or1 _ _ _ _ _ _ _ _ (@sndT_cmp _ _ _ _ _ _ _ _ _ _ _ _ cmp_eq (@snd_loc _ _ _ _ _ _ _ (i := 0) rfl rfl (by law_fin)) (@snd_str _ _ _ _ _ _ _ _ _ (by law_fin)) (by law_fin)))) (@sndb_cons _ _ _ _ _ _ _ _ _ (@snds_ret _ _ _ _ _ _ _ _ (@snd_loc _ _ _ _ _ _ _ (i := 1) rfl rfl (by law_fin)))
      (@sndb_nil _ _ _ _ _)) (@sndb_nil _ _ _ _ _))
      (@sndb_cons _ _ _ _ _ _ _ _ _ (@snds_if _ _ _ _ _ _ _ _ _ _ _ _ (@sndT_cmp _ _ _ _ _ _ _ _ _ _ _ _ cmp_eq (@snd_loc _ _ _ _ _ _ _ (i := 0) rfl rfl (by law_fin)) (@snd_str _ _ _ _ _ _ _ _ _ (by law_fin)) (by law_fin)) (@sndb_cons _ _ _ _ _ _ _ _ _ (@snds_ret _ _ _ _ _ _ _ _ (@snd_ife _ _ _ _ _ _ _ _ _ _ _ _ (@sndT_cmp _ _ _ _ _ _ _ _ _ _ _ _ cmp_eq (@snd_loc _ _ _ _ _ _ _ (i := 1) rfl rfl (by law_fin)) (@snd_int _ _ _ _ _ _ _ _) (by law_fin)) (@snd_str _ _ _ _ _ _ _ _ _ (by law_fin)) (@snd_str _ _ _ _ _ _ _ _ _ (by law_fin))))
      (@sndb_nil _ _ _ _ _)) (@sndb_nil _ _ _ _ _))
      (@sndb_cons _ _ _ _ _ _ _ _ _ (@snds_if _ _ _ _ _ _ _ _ _ _ _ _ (@sndT_cmp _ _ _ _ _ _ _ _ _ _ _ _ cmp_eq (@snd_loc _ _ _ _ _ _ _ (i := 0) rfl rfl (by law_fin)) (@snd_str _ _ _ _ _ _ _ _ _ (by law_fin)) (by law_fin)) (@sndb_cons _ _ _ _ _ _ _ _ _ (@snds_ret _ _ _ _ _ _ _ _ (@snd_bi _ _ _ _ _ _ _ _ _ _ _ _ bi_str rfl (gb_str _) (.inr ⟨_, rfl⟩) (by law_fin) (by law_fin) (@snd_loc _ _ _ _ _ _ _ (i := 1) rfl rfl (by law_fin)) (fun _ => rfl)))
      (@sndb_nil _ _ _ _ _)) (@sndb_nil _ _ _ _ _))
      (@sndb_cons _ _ _ _ _ _ _ _ _ (@snds_ret _ _ _ _ _ _ _ _ (@snd_bad _ _ _ _ _ _))
      (@sndb_nil _ _ _ _ _)))))

theorem s596 : SndF w mg mb means 596 1 1 (callF 1 f596) := by
  refine fn_snd (lev := 1) (ns := [Str.ofString "v"]) ?hb ?hns (by k_is) (by k_is) ?hbind ?hkind ?hnd ?hap ?hnp ?hco ?hgen ?hk
  case hns => decide +kernel
  case hbind => exact fun s => bind1 fun a0 => BindsTo.of_eq rfl
  case hkind => exact kinds_of (by decide +kernel)
  case hnd => decide +kernel
  case hap => (intro L; first | exact List.Pairwise.nil | (simp [cellsFrom]; done) | (simp [cellsFrom]; omega))
  case hnp => decide
  case hco => rfl
  case hgen => rfl
  case hk => rfl
  case hb =>
    exact (@sndb_cons _ _ _ _ _ _ _ _ _ (@snds_if _ _ _ _ _ _ _ _ _ _ _ _ (@sndT_cmp _ _ _ _ _ _ _ _ _ _ _ _ cmp_eq (@snd_attr _ _ _ _ _ _ _ _ _ _ (@snd_loc _ _ _ _ _ _ _ (i := 0) rfl rfl (by law_fin)) n_kind (by law_fin)) (@snd_str _ _ _ _ _ _ _ _ _ (by law_fin)) (by law_fin)) (@sndb_cons _ _ _ _ _ _ _ _ _ (@snds_ret _ _ _ _ _ _ _ _ (@snd_int _ _ _ _ _ _ _ _))
      (@sndb_nil _ _ _ _ _)) (@sndb_nil _ _ _ _ _))
      (@sndb_cons _ _ _ _ _ _ _ _ _ (@snds_if _ _ _ _ _ _ _ _ _ _ _ _ (@sndT_cmp _ _ _ _ _ _ _ _ _ _ _ _ cmp_eq (@snd_attr _ _ _ _ _ _ _ _ _ _ (@snd_loc _ _ _ _ _ _ _ (i := 0) rfl rfl (by law_fin)) n_kind (by law_fin)) (@snd_str _ _ _ _ _ _ _ _ _ (by law_fin)) (by law_fin)) (@sndb_cons _ _ _ _ _ _ _ _ _ (@snds_ret _ _ _ _ _ _ _ _ (@snd_bi _ _ _ _ _ _ _ _ _ _ _ _ bi_len rfl (gb_len _) (.inl ⟨_, rfl⟩) (by law_fin) (by law_fin) (@snd_attr _ _ _ _ _ _ _ _ _ _ (@snd_loc _ _ _ _ _ _ _ (i := 0) rfl rfl (by law_fin)) n_frame (by law_fin)) (fun _ => rfl)))
      (@sndb_nil _ _ _ _ _)) (@sndb_nil _ _ _ _ _))
      (@sndb_cons _ _ _ _ _ _ _ _ _ (@snds_if _ _ _ _ _ _ _ _ _ _ _ _ (@sndT_or _ _ _ _ _ _ _ _ _ _ _ (@sndT_cmp _ _ _ _ _ _ _ _ _ _ _ _ cmp_eq (@snd_attr _ _ _ _ _ _ _ _ _ _ (@snd_loc _ _ _ _ _ _ _ (i := 0) rfl rfl (by law_fin)) n_kind (by law_fin)) (@snd_str _ _ _ _ _ _ _ _ _ (by law_fin)) (by law_fin)) (@sndT_or1 _ _ _ _ _ _ _ _ (@sndT_cmp _ _ _ _ _ _ _ _ _ _ _ _ cmp_eq (@snd_attr _ _ _ _ _ _ _ _ _ _ (@snd_loc _ _ _ _ _ _ _ (i := 0) rfl rfl (by law_fin)) n_kind (by law_fin)) (@snd_str _ _ _ _ _ _ _ _ _ (by law_fin)) (by law_fin)))) (@sndb_cons _ _ _ _ _ _ _ _ _ (@snds_ret _ _ _ _ _ _ _ _ (@snd_int _ _ _ _ _ _ _ _))
      (@sndb_nil _ _ _ _ _)) (@sndb_nil _ _ _ _ _))
      (@sndb_cons _ _ _ _ _ _ _ _ _ (@snds_ret _ _ _ _ _ _ _ _ (@snd_bi _ _ _ _ _ _ _ _ _ _ _ _ bi_len rfl (gb_len _) (.inl ⟨_, rfl⟩) (by law_fin) (by law_fin) (@snd_attr _ _ _ _ _ _ _ _ _ _ (@snd_loc _ _ _ _ _ _ _ (i := 0) rfl rfl (by law_fin)) n_items (by law_fin)) (fun _ => rfl)))
      (@sndb_nil _ _ _ _ _)))))

theorem s529 : SndF w mg mb means 529 2 5 (callF 2 f529) := by
  refine fn_snd (lev := 5) (ns := [Str.ofString "v", Str.ofString "names"]) ?hb ?hns (by k_is) (by k_is) ?hbind ?hkind ?hnd ?hap ?hnp ?hco ?hgen ?hk
  case hns => decide +kernel
  case hbind => exact fun s => bind2 fun a0 a1 => BindsTo.of_eq rfl
  case hkind => exact kinds_of (by decide +kernel)
  case hnd => decide +kernel
  case hap => (intro L; first | exact List.Pairwise.nil | (simp [cellsFrom]; done) | (simp [cellsFrom]; omega))
  case hnp => decide
  case hco => rfl
  case hgen => rfl
  case hk => rfl
  case hb =>
    exact (@sndb_cons _ _ _ _ _ _ _ _ _ (@snds_if _ _ _ _ _ _ _ _ _ _ _ _ (@sndT_cmp _ _ _ _ _ _ _ _ _ _ _ _ cmp_isnt (@snd_loc _ _ _ _ _ _ _ (i := 1) rfl rfl (by law_fin)) (@snd_none _ _ _ _ _ _ _) (by law_fin)) (@sndb_cons _ _ _ _ _ _ _ _ _ (@snds_asgP _ _ _ _ _ _ _ _ _ _ _ _ _ (.inr trivial) (@snd_dict1 _ _ _ _ _ _ _ _ _ _ _ _ (by law_fin) (@snd_call _ _ _ _ _ _ _ _ _ _ _ _ _ _ _ (@s433 w mg mb means) (by law_fin) (by law_fin) (gf_share _) (by law_fin) (by law_fin) rfl (@snds_cons _ _ _ _ _ _ _ _ _ (@snd_call _ _ _ _ _ _ _ _ _ _ _ _ _ _ _ (@s412 w mg mb means) (by law_fin) (by law_fin) (gf_character _) (by law_fin) (by law_fin) rfl (@snds_cons _ _ _ _ _ _ _ _ _ (@snd_loc _ _ _ _ _ _ _ (i := 1) rfl rfl (by law_fin)) (@snds_nil _ _ _ _ _) (by law_fin)) (by law_fin) (fun _ _ => rfl)) (@snds_nil _ _ _ _ _) (by law_fin)) (by law_fin) (fun _ _ => rfl))) (@snd_loc _ _ _ _ _ _ _ (i := 0) rfl rfl (by law_fin)) n_attrs (fun _ => rfl))
      (@sndb_nil _ _ _ _ _)) (@sndb_nil _ _ _ _ _))
      (@sndb_cons _ _ _ _ _ _ _ _ _ (@snds_ret _ _ _ _ _ _ _ _ (@snd_loc _ _ _ _ _ _ _ (i := 0) rfl rfl (by law_fin)))
      (@sndb_nil _ _ _ _ _)))

end
noncomputable def f33 : Sb := (blk [sIff (xCmp .eq (xAttr (xLoc 0) 0) (xStr [108, 97, 110, 103, 117, 97, 103, 101])) (blk [sForL 1 (xAttr (xLoc 0) 6) (blk [sIff (xCmp .isnt (xLoc 1) xNone) (blk [sRet (xComp (xIfe (xCmp .is xCv xNone) (xStr []) xCv) (xAttr (xLoc 0) 6))]) (blk [])]), sRet xNone]) (blk []), sIff (xCmp .eq (xAttr (xLoc 0) 0) (xStr [101, 110, 118, 105, 114, 111, 110, 109, 101, 110, 116])) (blk [sRet xBad]) (blk []), sAsg 2 (xFn 2 f40 [(xLoc 0)]), sIff (xAnd [(xCmp .isnt (xLoc 2) xNone), (xCmp .eq (xLen (xLoc 2)) (xInt 1))]) (blk [sAsg 3 xBad, sRet (xIfe (xCmp .is (xLoc 3) xNone) xNone (xSub (xLoc 3) (xInt 0)))]) (blk []), sAsg 4 (xFn 2 f28 [(xLoc 0), (xStr [110, 97, 109, 101, 115])]), sIff (xCmp .is (xLoc 4) xNone) (blk [sRet xNone]) (blk []), sRet (xLst (xAttr (xLoc 4) 1))])
noncomputable def f496 : Sb := (blk [sIff (xCmp .eq (xLoc 0) (xLoc 2)) (blk [sRet (xLoc 1)]) (blk []), sIff (xOr [(xCmp .eq (xLoc 2) (xStr [108, 105, 115, 116])), (xCmp .eq (xLoc 2) (xStr [101, 120, 112, 114, 101, 115, 115, 105, 111, 110])), (xCmp .eq (xLoc 2) (xStr [112, 97, 105, 114, 108, 105, 115, 116]))]) (blk [sRet (xIfe (xFn 1 f503 [(xLoc 0)]) (xFn 1 f433 [(xCls 314 [(xLoc 0), (xList [(xLoc 1)])])]) (xLoc 1))]) (blk []), sIff (xNot (xFn 1 f503 [(xLoc 0)])) (blk [sRet xBad]) (blk []), sIff (xCmp .eq (xLoc 2) (xStr [108, 111, 103, 105, 99, 97, 108])) (blk [sRet (xFn 2 f468 [(xLoc 0), (xLoc 1)])]) (blk []), sIff (xCmp .eq (xLoc 2) (xStr [105, 110, 116, 101, 103, 101, 114])) (blk [sRet xBad]) (blk []), sIff (xCmp .eq (xLoc 2) (xStr [100, 111, 117, 98, 108, 101])) (blk [sRet xBad]) (blk []), sRet (xFn 2 f489 [(xLoc 0), (xLoc 1)])])
noncomputable def f610 : Sb := (blk [sIff (xCmp .ne (xAttr (xLoc 0) 0) (xAttr (xLoc 1) 0)) (blk [sRet (xBool false)]) (blk []), sIff (xCmp .eq (xAttr (xLoc 0) 0) (xStr [115, 121, 109, 98, 111, 108])) (blk [sRet (xCmp .eq (xAttr (xLoc 0) 5) (xAttr (xLoc 1) 5))]) (blk []), sIff (xCmp .eq (xAttr (xLoc 0) 0) (xStr [101, 110, 118, 105, 114, 111, 110, 109, 101, 110, 116])) (blk [sRet (xCmp .eq (xAttr (xLoc 0) 11) (xAttr (xLoc 1) 11))]) (blk []), sIff (xCmp .eq (xAttr (xLoc 0) 0) (xStr [99, 108, 111, 115, 117, 114, 101])) (blk [sRet (xCmp .eq (xAttr (xAttr (xLoc 0) 9) 5) (xAttr (xAttr (xLoc 1) 9) 5))]) (blk []), sIff (xOr [(xCmp .eq (xAttr (xLoc 0) 0) (xStr [108, 97, 110, 103, 117, 97, 103, 101])), (xCmp .eq (xAttr (xLoc 0) 0) (xStr [108, 105, 115, 116])), (xCmp .eq (xAttr (xLoc 0) 0) (xStr [101, 120, 112, 114, 101, 115, 115, 105, 111, 110]))]) (blk [sRet (xCmp .eq (xLen (xAttr (xLoc 0) 1)) (xLen (xAttr (xLoc 1) 1)))]) (blk []), sRet (xOr [(xCmp .eq (xAttr (xLoc 0) 0) (xStr [78, 85, 76, 76])), (xCmp .eq (xAttr (xLoc 0) 1) (xAttr (xLoc 1) 1))])])
noncomputable def f641 : Sb := (blk [sAsg 1 (xList []), sForL 2 (xAttr (xLoc 0) 1) (blk [sIff (xCmp .eq (xAttr (xLoc 2) 0) (xStr [115, 121, 109, 98, 111, 108])) (blk [sApp (xLoc 1) (xAttr (xLoc 2) 5)]) (blk [sIff (xAnd [(xCmp .isin (xAttr (xLoc 2) 0) (xTup [(xStr [105, 110, 116, 101, 103, 101, 114]), (xStr [99, 104, 97, 114, 97, 99, 116, 101, 114])])), (xCmp .eq (xLen (xAttr (xLoc 2) 1)) (xInt 1))]) (blk [sApp (xLoc 1) (xStrf (xSub (xAttr (xLoc 2) 1) (xInt 0)))]) (blk [sRet xNone])])]), sRet (xLoc 1)])
noncomputable def f603 : Sb := (blk [sIff (xCmp .ne (xFn 1 f596 [(xLoc 0)]) (xInt 1)) (blk [sRet (xIfe (xCmp .eq (xFn 1 f596 [(xLoc 0)]) (xInt 0)) (xStr [97, 114, 103, 117, 109, 101, 110, 116, 32, 105, 115, 32, 111, 102, 32, 108, 101, 110, 103, 116, 104, 32, 122, 101, 114, 111]) (xStr [116, 104, 101, 32, 99, 111, 110, 100, 105, 116, 105, 111, 110, 32, 104, 97, 115, 32, 108, 101, 110, 103, 116, 104, 32, 62, 32, 49]))]) (blk []), sAsg 1 (xStr [97, 114, 103, 117, 109, 101, 110, 116, 32, 105, 115, 32, 110, 111, 116, 32, 105, 110, 116, 101, 114, 112, 114, 101, 116, 97, 98, 108, 101, 32, 97, 115, 32, 108, 111, 103, 105, 99, 97, 108]), sIff (xCmp .notin (xAttr (xLoc 0) 0) (xTup [(xStr [108, 111, 103, 105, 99, 97, 108]), (xStr [105, 110, 116, 101, 103, 101, 114]), (xStr [100, 111, 117, 98, 108, 101]), (xStr [99, 104, 97, 114, 97, 99, 116, 101, 114])])) (blk [sRet (xLoc 1)]) (blk []), sAsg 2 (xSub (xAttr (xLoc 0) 1) (xInt 0)), sIff (xCmp .eq (xAttr (xLoc 0) 0) (xStr [108, 111, 103, 105, 99, 97, 108])) (blk [sRet (xIfe (xCmp .is (xLoc 2) xNone) (xStr [109, 105, 115, 115, 105, 110, 103, 32, 118, 97, 108, 117, 101, 32, 119, 104, 101, 114, 101, 32, 84, 82, 85, 69, 47, 70, 65, 76, 83, 69, 32, 110, 101, 101, 100, 101, 100]) (xCmp .eq (xLoc 2) (xInt 1)))]) (blk []), sIff (xOr [(xCmp .is (xLoc 2) xNone), (xCmp .eq (xLoc 2) (xTup [(xInt 0), (xInt 0)]))]) (blk [sRet (xLoc 1)]) (blk []), sIff (xCmp .eq (xAttr (xLoc 0) 0) (xStr [99, 104, 97, 114, 97, 99, 116, 101, 114])) (blk [sIff (xCmp .isin (xLoc 2) (xList [(xStr [84]), (xStr [84, 82, 85, 69]), (xStr [116, 114, 117, 101]), (xStr [84, 114, 117, 101])])) (blk [sRet (xBool true)]) (blk []), sRet (xIfe (xCmp .isin (xLoc 2) (xList [(xStr [70]), (xStr [70, 65, 76, 83, 69]), (xStr [102, 97, 108, 115, 101]), (xStr [70, 97, 108, 115, 101])])) (xBool false) (xLoc 1))]) (blk []), sRet (xIfe (xCmp .eq (xAttr (xLoc 0) 0) (xStr [100, 111, 117, 98, 108, 101])) (xCmp .ne (xLoc 2) (xTup [(xInt 0), (xInt 1)])) (xCmp .ne (xLoc 2) (xInt 0)))])
section
variable (w : World) (mg mb : Str → Option Value) (means : ExcName → Option Value)
theorem s33 : SndF w mg mb means 33 1 3 (callF 5 f33) := by
  refine fn_snd (lev := 3) (ns := [Str.ofString "v", Str.ofString "tag", Str.ofString "dims", Str.ofString "rows", Str.ofString "names"]) ?hb ?hns (by k_is) (by k_is) ?hbind ?hkind ?hnd ?hap ?hnp ?hco ?hgen ?hk
  case hns => decide +kernel
  case hbind => exact fun s => bind1 fun a0 => BindsTo.of_eq rfl
  case hkind => exact kinds_of (by decide +kernel)
  case hnd => decide +kernel
  case hap => (intro L; first | exact List.Pairwise.nil | (simp [cellsFrom]; done) | (simp [cellsFrom]; omega))
  case hnp => decide
  case hco => rfl
  case hgen => rfl
  case hk => rfl
  case hb =>
    exact (@sndb_cons _ _ _ _ _ _ _ _ _ (@snds_if _ _ _ _ _ _ _ _ _ _ _ _ (@sndT_cmp _ _ _ _ _ _ _ _ _ _ _ _ cmp_eq (@snd_attr _ _ _ _ _ _ _ _ _ _ (@snd_loc _ _ _ _ _ _ _ (i := 0) rfl rfl (by law_fin)) n_kind (by law_fin)) (@snd_str _ _ _ _ _ _ _ _ _ (by law_fin)) (by law_fin)) (@sndb_cons _ _ _ _ _ _ _ _ _ (@snds_forL _ _ _ _ _ _ _ _ _ _ _ _ _ rfl rfl rfl (@snd_attr _ _ _ _ _ _ _ _ _ _ (@snd_loc _ _ _ _ _ _ _ (i := 0) rfl rfl (by law_fin)) n_tags (by law_fin)) (@sndb_cons _ _ _ _ _ _ _ _ _ (@snds_if _ _ _ _ _ _ _ _ _ _ _ _ (@sndT_cmp _ _ _ _ _ _ _ _ _ _ _ _ cmp_isnt (@snd_loc _ _ _ _ _ _ _ (i := 1) rfl rfl (by law_fin)) (@snd_none _ _ _ _ _ _ _) (by law_fin)) (@sndb_cons _ _ _ _ _ _ _ _ _ (@snds_ret _ _ _ _ _ _ _ _ (@snd_comp _ _ _ _ _ _ _ _ _ _ _ (c := ⟨_, _, (fun _ => [])⟩) (by exact ⟨rfl, rfl, rfl, by decide +kernel, by decide +kernel, by decide +kernel, fun _ => rfl, fun _ _ => rfl⟩) (@snd_ife _ _ _ _ _ _ _ _ _ _ _ _ (@sndT_cmp _ _ _ _ _ _ _ _ _ _ _ _ cmp_is (@snd_cv _ _ _ _ _ _ _ _ rfl rfl (by law_fin) (by law_fin)) (@snd_none _ _ _ _ _ _ _) (by law_fin)) (@snd_str _ _ _ _ _ _ _ _ _ (by law_fin)) (@snd_cv _ _ _ _ _ _ _ _ rfl rfl (by law_fin) (by law_fin))) (@snd_attr _ _ _ _ _ _ _ _ _ _ (@snd_loc _ _ _ _ _ _ _ (i := 0) rfl rfl (by law_fin)) n_tags (by law_fin))))
      (@sndb_nil _ _ _ _ _)) (@sndb_nil _ _ _ _ _))
      (@sndb_nil _ _ _ _ _)) (.inl (by law_fin)) (fun _ _ => rfl))
      (@sndb_cons _ _ _ _ _ _ _ _ _ (@snds_ret _ _ _ _ _ _ _ _ (@snd_none _ _ _ _ _ _ _))
      (@sndb_nil _ _ _ _ _))) (@sndb_nil _ _ _ _ _))
      (@sndb_cons _ _ _ _ _ _ _ _ _ (@snds_if _ _ _ _ _ _ _ _ _ _ _ _ (@sndT_cmp _ _ _ _ _ _ _ _ _ _ _ _ cmp_eq (@snd_attr _ _ _ _ _ _ _ _ _ _ (@snd_loc _ _ _ _ _ _ _ (i := 0) rfl rfl (by law_fin)) n_kind (by law_fin)) (@snd_str _ _ _ _ _ _ _ _ _ (by law_fin)) (by law_fin)) (@sndb_cons _ _ _ _ _ _ _ _ _ (@snds_ret _ _ _ _ _ _ _ _ (@snd_bad _ _ _ _ _ _))
      (@sndb_nil _ _ _ _ _)) (@sndb_nil _ _ _ _ _))
      (@sndb_cons _ _ _ _ _ _ _ _ _ (@snds_asg _ _ _ _ _ _ _ _ _ _ _ rfl rfl (@snd_call _ _ _ _ _ _ _ _ _ _ _ _ _ _ _ (@s40 w mg mb means) (by law_fin) (by law_fin) (gf_dim_of _) (by law_fin) (by law_fin) rfl (@snds_cons _ _ _ _ _ _ _ _ _ (@snd_loc _ _ _ _ _ _ _ (i := 0) rfl rfl (by law_fin)) (@snds_nil _ _ _ _ _) (by law_fin)) (by law_fin) (fun _ _ => rfl)) (.inl (by law_fin)) (fun _ => rfl))
      (@sndb_cons _ _ _ _ _ _ _ _ _ (@snds_if _ _ _ _ _ _ _ _ _ _ _ _ (@sndT_and _ _ _ _ _ _ _ _ _ _ _ (@sndT_cmp _ _ _ _ _ _ _ _ _ _ _ _ cmp_isnt (@snd_loc _ _ _ _ _ _ _ (i := 2) rfl rfl (by law_fin)) (@snd_none _ _ _ _ _ _ _) (by law_fin)) (@sndT_and1 _ _ _ _ _ _ _ _ (@sndT_cmp _ _ _ _ _ _ _ _ _ _ _ _ cmp_eq (@snd_bi _ _ _ _ _ _ _ _ _ _ _ _ bi_len rfl (gb_len _) (.inl ⟨_, rfl⟩) (by law_fin) (by law_fin) (@snd_loc _ _ _ _ _ _ _ (i := 2) rfl rfl (by law_fin)) (fun _ => rfl)) (@snd_int _ _ _ _ _ _ _ _) (by law_fin)))) (@sndb_cons _ _ _ _ _ _ _ _ _ (@snds_asg _ _ _ _ _ _ _ _ _ _ _ rfl rfl (@snd_bad _ _ _ _ _ _) (.inl (by law_fin)) (fun _ => rfl))
      (@sndb_cons _ _ _ _ _ _ _ _ _ (@snds_ret _ _ _ _ _ _ _ _ (@snd_ife _ _ _ _ _ _ _ _ _ _ _ _ (@sndT_cmp _ _ _ _ _ _ _ _ _ _ _ _ cmp_is (@snd_loc _ _ _ _ _ _ _ (i := 3) rfl rfl (by law_fin)) (@snd_none _ _ _ _ _ _ _) (by law_fin)) (@snd_none _ _ _ _ _ _ _) (@snd_sub _ _ _ _ _ _ _ _ _ _ (@snd_loc _ _ _ _ _ _ _ (i := 3) rfl rfl (by law_fin)) (@snd_int _ _ _ _ _ _ _ _) (fun _ _ _ => rfl))))
      (@sndb_nil _ _ _ _ _))) (@sndb_nil _ _ _ _ _))
      (@sndb_cons _ _ _ _ _ _ _ _ _ (@snds_asg _ _ _ _ _ _ _ _ _ _ _ rfl rfl (@snd_call _ _ _ _ _ _ _ _ _ _ _ _ _ _ _ (@s28 w mg mb means) (by law_fin) (by law_fin) (gf_get_attr _) (by law_fin) (by law_fin) rfl (@snds_cons _ _ _ _ _ _ _ _ _ (@snd_loc _ _ _ _ _ _ _ (i := 0) rfl rfl (by law_fin)) (@snds_cons _ _ _ _ _ _ _ _ _ (@snd_str _ _ _ _ _ _ _ _ _ (by law_fin)) (@snds_nil _ _ _ _ _) (by law_fin)) (by law_fin)) (by law_fin) (fun _ _ => rfl)) (.inl (by law_fin)) (fun _ => rfl))
      (@sndb_cons _ _ _ _ _ _ _ _ _ (@snds_if _ _ _ _ _ _ _ _ _ _ _ _ (@sndT_cmp _ _ _ _ _ _ _ _ _ _ _ _ cmp_is (@snd_loc _ _ _ _ _ _ _ (i := 4) rfl rfl (by law_fin)) (@snd_none _ _ _ _ _ _ _) (by law_fin)) (@sndb_cons _ _ _ _ _ _ _ _ _ (@snds_ret _ _ _ _ _ _ _ _ (@snd_none _ _ _ _ _ _ _))
      (@sndb_nil _ _ _ _ _)) (@sndb_nil _ _ _ _ _))
      (@sndb_cons _ _ _ _ _ _ _ _ _ (@snds_ret _ _ _ _ _ _ _ _ (@snd_bi _ _ _ _ _ _ _ _ _ _ _ _ bi_lst rfl (gb_list _) (.inr ⟨_, rfl⟩) (by law_fin) (by law_fin) (@snd_attr _ _ _ _ _ _ _ _ _ _ (@snd_loc _ _ _ _ _ _ _ (i := 4) rfl rfl (by law_fin)) n_items (by law_fin)) (fun _ => rfl)))
      (@sndb_nil _ _ _ _ _))))))))

theorem s496 : SndF w mg mb means 496 4 4 (callF 4 f496) := by
  refine fn_snd (lev := 4) (ns := [Str.ofString "kind", Str.ofString "item", Str.ofString "to", Str.ofString "notes"]) ?hb ?hns (by k_is) (by k_is) ?hbind ?hkind ?hnd ?hap ?hnp ?hco ?hgen ?hk
  case hns => decide +kernel
  case hbind => exact fun s => bind4 fun a0 a1 a2 a3 => BindsTo.of_eq rfl
  case hkind => exact kinds_of (by decide +kernel)
  case hnd => decide +kernel
  case hap => (intro L; first | exact List.Pairwise.nil | (simp [cellsFrom]; done) | (simp [cellsFrom]; omega))
  case hnp => decide
  case hco => rfl
  case hgen => rfl
  case hk => rfl
  case hb =>
    exact (@sndb_cons _ _ _ _ _ _ _ _ _ (@snds_if _ _ _ _ _ _ _ _ _ _ _ _ (@sndT_cmp _ _ _ _ _ _ _ _ _ _ _ _ cmp_eq (@snd_loc _ _ _ _ _ _ _ (i := 0) rfl rfl (by law_fin)) (@snd_loc _ _ _ _ _ _ _ (i := 2) rfl rfl (by law_fin)) (by law_fin)) (@sndb_cons _ _ _ _ _ _ _ _ _ (@snds_ret _ _ _ _ _ _ _ _ (@snd_loc _ _ _ _ _ _ _ (i := 1) rfl rfl (by law_fin)))
      (@sndb_nil _ _ _ _ _)) (@sndb_nil _ _ _ _ _))
      (@sndb_cons _ _ _ _ _ _ _ _ _ (@snds_if _ _ _ _ _ _ _ _ _ _ _ _ (@sndT_or _ _ _ _ _ _ _ _ _ _ _ (@sndT_cmp _ _ _ _ _ _ _ _ _ _ _ _ cmp_eq (@snd_loc _ _ _ _ _ _ _ (i := 2) rfl rfl (by law_fin)) (@snd_str _ _ _ _ _ _ _ _ _ (by law_fin)) (by law_fin)) (@sndT_or _ _ _ _ _ _ _ _ _ _ _ (@sndT_cmp _ _ _ _ _ _ _ _ _ _ _ _ cmp_eq (@snd_loc _ _ _ _ _ _ _ (i := 2) rfl rfl (by law_fin)) (@snd_str _ _ _ _ _ _ _ _ _ (by law_fin)) (by law_fin)) (@sndT_or1 _ _ _ _ _ _ _ _ (@sndT_cmp _ _ _ _ _ _ _ _ _ _ _ _ cmp_eq (@snd_loc _ _ _ _ _ _ _ (i := 2) rfl rfl (by law_fin)) (@snd_str _ _ _ _ _ _ _ _ _ (by law_fin)) (by law_fin))))) (@sndb_cons _ _ _ _ _ _ _ _ _ (@snds_ret _ _ _ _ _ _ _ _ (@snd_ife _ _ _ _ _ _ _ _ _ _ _ _ (@sndT_plain _ _ _ _ _ _ _ (@snd_call _ _ _ _ _ _ _ _ _ _ _ _ _ _ _ (@s503 w mg mb means) (by law_fin) (by law_fin) (gf_is_atomic_kind _) (by law_fin) (by law_fin) rfl (@snds_cons _ _ _ _ _ _ _ _ _ (@snd_loc _ _ _ _ _ _ _ (i := 0) rfl rfl (by law_fin)) (@snds_nil _ _ _ _ _) (by law_fin)) (by law_fin) (fun _ _ => rfl)) (fun _ _ => rfl)) (@snd_call _ _ _ _ _ _ _ _ _ _ _ _ _ _ _ (@s433 w mg mb means) (by law_fin) (by law_fin) (gf_share _) (by law_fin) (by law_fin) rfl (@snds_cons _ _ _ _ _ _ _ _ _ (@snd_call _ _ _ _ _ _ _ _ _ _ _ _ _ _ _ (@mkn_vec _ _ _ _) (by law_fin) (by law_fin) (gf_Vector _) (by law_fin) (by law_fin) rfl (@snds_cons _ _ _ _ _ _ _ _ _ (@snd_loc _ _ _ _ _ _ _ (i := 0) rfl rfl (by law_fin)) (@snds_cons _ _ _ _ _ _ _ _ _ (@snd_list _ _ _ _ _ _ _ _ (@snds_cons _ _ _ _ _ _ _ _ _ (@snd_loc _ _ _ _ _ _ _ (i := 1) rfl rfl (by law_fin)) (@snds_nil _ _ _ _ _) (by law_fin))) (@snds_nil _ _ _ _ _) (by law_fin)) (by law_fin)) (by law_fin) (fun _ _ => rfl)) (@snds_nil _ _ _ _ _) (by law_fin)) (by law_fin) (fun _ _ => rfl)) (@snd_loc _ _ _ _ _ _ _ (i := 1) rfl rfl (by law_fin))))
      (@sndb_nil _ _ _ _ _)) (@sndb_nil _ _ _ _ _))
      (@sndb_cons _ _ _ _ _ _ _ _ _ (@snds_if _ _ _ _ _ _ _ _ _ _ _ _ (@sndT_not _ _ _ _ _ _ _ _ (@sndT_plain _ _ _ _ _ _ _ (@snd_call _ _ _ _ _ _ _ _ _ _ _ _ _ _ _ (@s503 w mg mb means) (by law_fin) (by law_fin) (gf_is_atomic_kind _) (by law_fin) (by law_fin) rfl (@snds_cons _ _ _ _ _ _ _ _ _ (@snd_loc _ _ _ _ _ _ _ (i := 0) rfl rfl (by law_fin)) (@snds_nil _ _ _ _ _) (by law_fin)) (by law_fin) (fun _ _ => rfl)) (fun _ _ => rfl))) (@sndb_cons _ _ _ _ _ _ _ _ _ (@snds_ret _ _ _ _ _ _ _ _ (@snd_bad _ _ _ _ _ _))
      (@sndb_nil _ _ _ _ _)) (@sndb_nil _ _ _ _ _))
      (@sndb_cons _ _ _ _ _ _ _ _ _ (@snds_if _ _ _ _ _ _ _ _ _ _ _ _ (@sndT_cmp _ _ _ _ _ _ _ _ _ _ _ _ cmp_eq (@snd_loc _ _ _ _ _ _ _ (i := 2) rfl rfl (by law_fin)) (@snd_str _ _ _ _ _ _ _ _ _ (by law_fin)) (by law_fin)) (@sndb_cons _ _ _ _ _ _ _ _ _ (@snds_ret _ _ _ _ _ _ _ _ (@snd_call _ _ _ _ _ _ _ _ _ _ _ _ _ _ _ (@s468 w mg mb means) (by law_fin) (by law_fin) (gf_to_logical _) (by law_fin) (by law_fin) rfl (@snds_cons _ _ _ _ _ _ _ _ _ (@snd_loc _ _ _ _ _ _ _ (i := 0) rfl rfl (by law_fin)) (@snds_cons _ _ _ _ _ _ _ _ _ (@snd_loc _ _ _ _ _ _ _ (i := 1) rfl rfl (by law_fin)) (@snds_nil _ _ _ _ _) (by law_fin)) (by law_fin)) (by law_fin) (fun _ _ => rfl)))
      (@sndb_nil _ _ _ _ _)) (@sndb_nil _ _ _ _ _))
      (@sndb_cons _ _ _ _ _ _ _ _ _ (@snds_if _ _ _ _ _ _ _ _ _ _ _ _ (@sndT_cmp _ _ _ _ _ _ _ _ _ _ _ _ cmp_eq (@snd_loc _ _ _ _ _ _ _ (i := 2) rfl rfl (by law_fin)) (@snd_str _ _ _ _ _ _ _ _ _ (by law_fin)) (by law_fin)) (@sndb_cons _ _ _ _ _ _ _ _ _ (@snds_ret _ _ _ _ _ _ _ _ (@snd_bad _ _ _ _ _ _))
      (@sndb_nil _ _ _ _ _)) (@sndb_nil _ _ _ _ _))
      (@sndb_cons _ _ _ _ _ _ _ _ _ (@snds_if _ _ _ _ _ _ _ _ _ _ _ _ (@sndT_cmp _ _ _ _ _ _ _ _ _ _ _ _ cmp_eq (@snd_loc _ _ _ _ _ _ _ (i := 2) rfl rfl (by law_fin)) (@snd_str _ _ _ _ _ _ _ _ _ (by law_fin)) (by law_fin)) (@sndb_cons _ _ _ _ _ _ _ _ _ (@snds_ret _ _ _ _ _ _ _ _ (@snd_bad _ _ _ _ _ _))
      (@sndb_nil _ _ _ _ _)) (@sndb_nil _ _ _ _ _))
      (@sndb_cons _ _ _ _ _ _ _ _ _ (@snds_ret _ _ _ _ _ _ _ _ (@snd_call _ _ _ _ _ _ _ _ _ _ _ _ _ _ _ (@s489 w mg mb means) (by law_fin) (by law_fin) (gf_to_text _) (by law_fin) (by law_fin) rfl (@snds_cons _ _ _ _ _ _ _ _ _ (@snd_loc _ _ _ _ _ _ _ (i := 0) rfl rfl (by law_fin)) (@snds_cons _ _ _ _ _ _ _ _ _ (@snd_loc _ _ _ _ _ _ _ (i := 1) rfl rfl (by law_fin)) (@snds_nil _ _ _ _ _) (by law_fin)) (by law_fin)) (by law_fin) (fun _ _ => rfl)))
      (@sndb_nil _ _ _ _ _))))))))

theorem s610 : SndF w mg mb means 610 2 1 (callF 2 f610) := by
  refine fn_snd (lev := 1) (ns := [Str.ofString "a", Str.ofString "b"]) ?hb ?hns (by k_is) (by k_is) ?hbind ?hkind ?hnd ?hap ?hnp ?hco ?hgen ?hk
  case hns => decide +kernel
  case hbind => exact fun s => bind2 fun a0 a1 => BindsTo.of_eq rfl
  case hkind => exact kinds_of (by decide +kernel)
  case hnd => decide +kernel
  case hap => (intro L; first | exact List.Pairwise.nil | (simp [cellsFrom]; done) | (simp [cellsFrom]; omega))
  case hnp => decide
  case hco => rfl
  case hgen => rfl
  case hk => rfl
  case hb =>
    exact (@sndb_cons _ _ _ _ _ _ _ _ _ (@snds_if _ _ _ _ _ _ _ _ _ _ _ _ (@sndT_cmp _ _ _ _ _ _ _ _ _ _ _ _ cmp_ne (@snd_attr _ _ _ _ _ _ _ _ _ _ (@snd_loc _ _ _ _ _ _ _ (i := 0) rfl rfl (by law_fin)) n_kind (by law_fin)) (@snd_attr _ _ _ _ _ _ _ _ _ _ (@snd_loc _ _ _ _ _ _ _ (i := 1) rfl rfl (by law_fin)) n_kind (by law_fin)) (by law_fin)) (@sndb_cons _ _ _ _ _ _ _ _ _ (@snds_ret _ _ _ _ _ _ _ _ (@snd_bool _ _ _ _ _ _ _ _))
      (@sndb_nil _ _ _ _ _)) (@sndb_nil _ _ _ _ _))
      (@sndb_cons _ _ _ _ _ _ _ _ _ (@snds_if _ _ _ _ _ _ _ _ _ _ _ _ (@sndT_cmp _ _ _ _ _ _ _ _ _ _ _ _ cmp_eq (@snd_attr _ _ _ _ _ _ _ _ _ _ (@snd_loc _ _ _ _ _ _ _ (i := 0) rfl rfl (by law_fin)) n_kind (by law_fin)) (@snd_str _ _ _ _ _ _ _ _ _ (by law_fin)) (by law_fin)) (@sndb_cons _ _ _ _ _ _ _ _ _ (@snds_ret _ _ _ _ _ _ _ _ (@snd_cmp _ _ _ _ _ _ _ _ _ _ _ _ cmp_eq (@snd_attr _ _ _ _ _ _ _ _ _ _ (@snd_loc _ _ _ _ _ _ _ (i := 0) rfl rfl (by law_fin)) n_name (by law_fin)) (@snd_attr _ _ _ _ _ _ _ _ _ _ (@snd_loc _ _ _ _ _ _ _ (i := 1) rfl rfl (by law_fin)) n_name (by law_fin)) (by law_fin)))
      (@sndb_nil _ _ _ _ _)) (@sndb_nil _ _ _ _ _))
      (@sndb_cons _ _ _ _ _ _ _ _ _ (@snds_if _ _ _ _ _ _ _ _ _ _ _ _ (@sndT_cmp _ _ _ _ _ _ _ _ _ _ _ _ cmp_eq (@snd_attr _ _ _ _ _ _ _ _ _ _ (@snd_loc _ _ _ _ _ _ _ (i := 0) rfl rfl (by law_fin)) n_kind (by law_fin)) (@snd_str _ _ _ _ _ _ _ _ _ (by law_fin)) (by law_fin)) (@sndb_cons _ _ _ _ _ _ _ _ _ (@snds_ret _ _ _ _ _ _ _ _ (@snd_cmp _ _ _ _ _ _ _ _ _ _ _ _ cmp_eq (@snd_attr _ _ _ _ _ _ _ _ _ _ (@snd_loc _ _ _ _ _ _ _ (i := 0) rfl rfl (by law_fin)) n_number (by law_fin)) (@snd_attr _ _ _ _ _ _ _ _ _ _ (@snd_loc _ _ _ _ _ _ _ (i := 1) rfl rfl (by law_fin)) n_number (by law_fin)) (by law_fin)))
      (@sndb_nil _ _ _ _ _)) (@sndb_nil _ _ _ _ _))
      (@sndb_cons _ _ _ _ _ _ _ _ _ (@snds_if _ _ _ _ _ _ _ _ _ _ _ _ (@sndT_cmp _ _ _ _ _ _ _ _ _ _ _ _ cmp_eq (@snd_attr _ _ _ _ _ _ _ _ _ _ (@snd_loc _ _ _ _ _ _ _ (i := 0) rfl rfl (by law_fin)) n_kind (by law_fin)) (@snd_str _ _ _ _ _ _ _ _ _ (by law_fin)) (by law_fin)) (@sndb_cons _ _ _ _ _ _ _ _ _ (@snds_ret _ _ _ _ _ _ _ _ (@snd_cmp _ _ _ _ _ _ _ _ _ _ _ _ cmp_eq (@snd_attr _ _ _ _ _ _ _ _ _ _ (@snd_attr _ _ _ _ _ _ _ _ _ _ (@snd_loc _ _ _ _ _ _ _ (i := 0) rfl rfl (by law_fin)) n_body (by law_fin)) n_name (by law_fin)) (@snd_attr _ _ _ _ _ _ _ _ _ _ (@snd_attr _ _ _ _ _ _ _ _ _ _ (@snd_loc _ _ _ _ _ _ _ (i := 1) rfl rfl (by law_fin)) n_body (by law_fin)) n_name (by law_fin)) (by law_fin)))
      (@sndb_nil _ _ _ _ _)) (@sndb_nil _ _ _ _ _))
      (@sndb_cons _ _ _ _ _ _ _ _ _ (@snds_if _ _ _ _ _ _ _ _ _ _ _ _ (@sndT_or _ _ _ _ _ _ _ _ _ _ _ (@sndT_cmp _ _ _ _ _ _ _ _ _ _ _ _ cmp_eq (@snd_attr _ _ _ _ _ _ _ _ _ _ (@snd_loc _ _ _ _ _ _ _ (i := 0) rfl rfl (by law_fin)) n_kind (by law_fin)) (@snd_str _ _ _ _ _ _ _ _ _ (by law_fin)) (by law_fin)) (@sndT_or _ _ _ _ _ _ _ _ _ _ _ (@sndT_cmp _ _ _ _ _ _ _ _ _ _ _ _ cmp_eq (@snd_attr _ _ _ _ _ _ _ _ _ _ (@snd_loc _ _ _ _ _ _ _ (i := 0) rfl rfl (by law_fin)) n_kind (by law_fin)) (@snd_str _ _ _ _ _ _ _ _ _ (by law_fin)) (by law_fin)) (@sndT_or1 _ _ _ _ _ _ _ _ (@sndT_cmp _ _ _ _ _ _ _ _ _ _ _ _ cmp_eq (@snd_attr _ _ _ _ _ _ _ _ _ _ (@snd_loc _ _ _ _ _ _ _ (i := 0) rfl rfl (by law_fin)) n_kind (by law_fin)) (@snd_str _ _ _ _ _ _ _ _ _ (by law_fin)) (by law_fin))))) (@sndb_cons _ _ _ _ _ _ _ _ _ (@snds_ret _ _ _ _ _ _ _ _ (@snd_cmp _ _ _ _ _ _ _ _ _ _ _ _ cmp_eq (@snd_bi _ _ _ _ _ _ _ _ _ _ _ _ bi_len rfl (gb_len _) (.inl ⟨_, rfl⟩) (by law_fin) (by law_fin) (@snd_attr _ _ _ _ _ _ _ _ _ _ (@snd_loc _ _ _ _ _ _ _ (i := 0) rfl rfl (by law_fin)) n_items (by law_fin)) (fun _ => rfl)) (@snd_bi _ _ _ _ _ _ _ _ _ _ _ _ bi_len rfl (gb_len _) (.inl ⟨_, rfl⟩) (by law_fin) (by law_fin) (@snd_attr _ _ _ _ _ _ _ _ _ _ (@snd_loc _ _ _ _ _ _ _ (i := 1) rfl rfl (by law_fin)) n_items (by law_fin)) (fun _ => rfl)) (by law_fin)))
      (@sndb_nil _ _ _ _ _)) (@sndb_nil _ _ _ _ _))
      (@sndb_cons _ _ _ _ _ _ _ _ _ (@snds_ret _ _ _ _ _ _ _ _ (@snd_or _ _ _ _ _ _ _ _ _ _ _ _ (@snd_cmp _ _ _ _ _ _ _ _ _ _ _ _ cmp_eq (@snd_attr _ _ _ _ _ _ _ _ _ _ (@snd_loc _ _ _ _ _ _ _ (i := 0) rfl rfl (by law_fin)) n_kind (by law_fin)) (@snd_str _ _ _ _ _ _ _ _ _ (by law_fin)) (by law_fin)) (@snd_or1 _ _ _ _ _ _ _ _ (@snd_cmp _ _ _ _ _ _ _ _ _ _ _ _ cmp_eq (@snd_attr _ _ _ _ _ _ _ _ _ _ (@snd_loc _ _ _ _ _ _ _ (i := 0) rfl rfl (by law_fin)) n_items (by law_fin)) (@snd_attr _ _ _ _ _ _ _ _ _ _ (@snd_loc _ _ _ _ _ _ _ (i := 1) rfl rfl (by law_fin)) n_items (by law_fin)) (by law_fin)))))
      (@sndb_nil _ _ _ _ _)))))))

theorem s641 : SndF w mg mb means 641 1 1 (callF 3 f641) := by
  refine fn_snd (lev := 1) (ns := [Str.ofString "v", Str.ofString "texts", Str.ofString "item"]) ?hb ?hns (by k_is) (by k_is) ?hbind ?hkind ?hnd ?hap ?hnp ?hco ?hgen ?hk
  case hns => decide +kernel
  case hbind => exact fun s => bind1 fun a0 => BindsTo.of_eq rfl
  case hkind => exact kinds_of (by decide +kernel)
  case hnd => decide +kernel
  case hap => (intro L; first | exact List.Pairwise.nil | (simp [cellsFrom]; done) | (simp [cellsFrom]; omega))
  case hnp => decide
  case hco => rfl
  case hgen => rfl
  case hk => rfl
  case hb =>
    exact (@sndb_cons _ _ _ _ _ _ _ _ _ (@snds_asg _ _ _ _ _ _ _ _ _ _ _ rfl rfl (@snd_list _ _ _ _ _ _ _ _ (@snds_nil _ _ _ _ _)) (.inl (by law_fin)) (fun _ => rfl))
      (@sndb_cons _ _ _ _ _ _ _ _ _ (@snds_forL _ _ _ _ _ _ _ _ _ _ _ _ _ rfl rfl rfl (@snd_attr _ _ _ _ _ _ _ _ _ _ (@snd_loc _ _ _ _ _ _ _ (i := 0) rfl rfl (by law_fin)) n_items (by law_fin)) (@sndb_cons _ _ _ _ _ _ _ _ _ (@snds_if _ _ _ _ _ _ _ _ _ _ _ _ (@sndT_cmp _ _ _ _ _ _ _ _ _ _ _ _ cmp_eq (@snd_attr _ _ _ _ _ _ _ _ _ _ (@snd_loc _ _ _ _ _ _ _ (i := 2) rfl rfl (by law_fin)) n_kind (by law_fin)) (@snd_str _ _ _ _ _ _ _ _ _ (by law_fin)) (by law_fin)) (@sndb_cons _ _ _ _ _ _ _ _ _ (@snds_app _ _ _ _ _ _ _ _ _ _ _ _ (@snd_loc _ _ _ _ _ _ _ (i := 1) rfl rfl (by law_fin)) (@snd_attr _ _ _ _ _ _ _ _ _ _ (@snd_loc _ _ _ _ _ _ _ (i := 2) rfl rfl (by law_fin)) n_name (by law_fin)) (fun _ => rfl) (fun _ => rfl) (by law_fin) (fun _ => rfl) (fun _ => rfl))
      (@sndb_nil _ _ _ _ _)) (@sndb_cons _ _ _ _ _ _ _ _ _ (@snds_if _ _ _ _ _ _ _ _ _ _ _ _ (@sndT_and _ _ _ _ _ _ _ _ _ _ _ (@sndT_cmp _ _ _ _ _ _ _ _ _ _ _ _ cmp_in (@snd_attr _ _ _ _ _ _ _ _ _ _ (@snd_loc _ _ _ _ _ _ _ (i := 2) rfl rfl (by law_fin)) n_kind (by law_fin)) (@snd_tup _ _ _ _ _ _ _ _ _ (@snds_cons _ _ _ _ _ _ _ _ _ (@snd_str _ _ _ _ _ _ _ _ _ (by law_fin)) (@snds_cons _ _ _ _ _ _ _ _ _ (@snd_str _ _ _ _ _ _ _ _ _ (by law_fin)) (@snds_nil _ _ _ _ _) (by law_fin)) (by law_fin))) (by law_fin)) (@sndT_and1 _ _ _ _ _ _ _ _ (@sndT_cmp _ _ _ _ _ _ _ _ _ _ _ _ cmp_eq (@snd_bi _ _ _ _ _ _ _ _ _ _ _ _ bi_len rfl (gb_len _) (.inl ⟨_, rfl⟩) (by law_fin) (by law_fin) (@snd_attr _ _ _ _ _ _ _ _ _ _ (@snd_loc _ _ _ _ _ _ _ (i := 2) rfl rfl (by law_fin)) n_items (by law_fin)) (fun _ => rfl)) (@snd_int _ _ _ _ _ _ _ _) (by law_fin)))) (@sndb_cons _ _ _ _ _ _ _ _ _ (@snds_app _ _ _ _ _ _ _ _ _ _ _ _ (@snd_loc _ _ _ _ _ _ _ (i := 1) rfl rfl (by law_fin)) (@snd_bi _ _ _ _ _ _ _ _ _ _ _ _ bi_str rfl (gb_str _) (.inr ⟨_, rfl⟩) (by law_fin) (by law_fin) (@snd_sub _ _ _ _ _ _ _ _ _ _ (@snd_attr _ _ _ _ _ _ _ _ _ _ (@snd_loc _ _ _ _ _ _ _ (i := 2) rfl rfl (by law_fin)) n_items (by law_fin)) (@snd_int _ _ _ _ _ _ _ _) (fun _ _ _ => rfl)) (fun _ => rfl)) (fun _ => rfl) (fun _ => rfl) (by law_fin) (fun _ => rfl) (fun _ => rfl))
      (@sndb_nil _ _ _ _ _)) (@sndb_cons _ _ _ _ _ _ _ _ _ (@snds_ret _ _ _ _ _ _ _ _ (@snd_none _ _ _ _ _ _ _))
      (@sndb_nil _ _ _ _ _)))
      (@sndb_nil _ _ _ _ _)))
      (@sndb_nil _ _ _ _ _)) (.inl (by law_fin)) (fun _ _ => rfl))
      (@sndb_cons _ _ _ _ _ _ _ _ _ (@snds_ret _ _ _ _ _ _ _ _ (@snd_loc _ _ _ _ _ _ _ (i := 1) rfl rfl (by law_fin)))
      (@sndb_nil _ _ _ _ _))))

theorem s603 : SndF w mg mb means 603 1 2 (callF 3 f603) := by
  refine fn_snd (lev := 2) (ns := [Str.ofString "v", Str.ofString "odd", Str.ofString "item"]) ?hb ?hns (by k_is) (by k_is) ?hbind ?hkind ?hnd ?hap ?hnp ?hco ?hgen ?hk
  case hns => decide +kernel
  case hbind => exact fun s => bind1 fun a0 => BindsTo.of_eq rfl
  case hkind => exact kinds_of (by decide +kernel)
  case hnd => decide +kernel
  case hap => (intro L; first | exact List.Pairwise.nil | (simp [cellsFrom]; done) | (simp [cellsFrom]; omega))
  case hnp => decide
  case hco => rfl
  case hgen => rfl
  case hk => rfl
  case hb =>
    exact (@sndb_cons _ _ _ _ _ _ _ _ _ (@snds_if _ _ _ _ _ _ _ _ _ _ _ _ (@sndT_cmp _ _ _ _ _ _ _ _ _ _ _ _ cmp_ne (@snd_call _ _ _ _ _ _ _ _ _ _ _ _ _ _ _ (@s596 w mg mb means) (by law_fin) (by law_fin) (gf_law_size _) (by law_fin) (by law_fin) rfl (@snds_cons _ _ _ _ _ _ _ _ _ (@snd_loc _ _ _ _ _ _ _ (i := 0) rfl rfl (by law_fin)) (@snds_nil _ _ _ _ _) (by law_fin)) (by law_fin) (fun _ _ => rfl)) (@snd_int _ _ _ _ _ _ _ _) (by law_fin)) (@sndb_cons _ _ _ _ _ _ _ _ _ (@snds_ret _ _ _ _ _ _ _ _ (@snd_ife _ _ _ _ _ _ _ _ _ _ _ _ (@sndT_cmp _ _ _ _ _ _ _ _ _ _ _ _ cmp_eq (@snd_call _ _ _ _ _ _ _ _ _ _ _ _ _ _ _ (@s596 w mg mb means) (by law_fin) (by law_fin) (gf_law_size _) (by law_fin) (by law_fin) rfl (@snds_cons _ _ _ _ _ _ _ _ _ (@snd_loc _ _ _ _ _ _ _ (i := 0) rfl rfl (by law_fin)) (@snds_nil _ _ _ _ _) (by law_fin)) (by law_fin) (fun _ _ => rfl)) (@snd_int _ _ _ _ _ _ _ _) (by law_fin)) (@snd_str _ _ _ _ _ _ _ _ _ (by law_fin)) (@snd_str _ _ _ _ _ _ _ _ _ (by law_fin))))
      (@sndb_nil _ _ _ _ _)) (@sndb_nil _ _ _ _ _))
      (@sndb_cons _ _ _ _ _ _ _ _ _ (@snds_asg _ _ _ _ _ _ _ _ _ _ _ rfl rfl (@snd_str _ _ _ _ _ _ _ _ _ (by law_fin)) (.inl (by law_fin)) (fun _ => rfl))
      (@sndb_cons _ _ _ _ _ _ _ _ _ (@snds_if _ _ _ _ _ _ _ _ _ _ _ _ (@sndT_cmp _ _ _ _ _ _ _ _ _ _ _ _ cmp_notin (@snd_attr _ _ _ _ _ _ _ _ _ _ (@snd_loc _ _ _ _ _ _ _ (i := 0) rfl rfl (by law_fin)) n_kind (by law_fin)) (@snd_tup _ _ _ _ _ _ _ _ _ (@snds_cons _ _ _ _ _ _ _ _ _ (@snd_str _ _ _ _ _ _ _ _ _ (by law_fin)) (@snds_cons _ _ _ _ _ _ _ _ _ (@snd_str _ _ _ _ _ _ _ _ _ (by law_fin)) (@snds_cons _ _ _ _ _ _ _ _ _ (@snd_str _ _ _ _ _ _ _ _ _ (by law_fin)) (@snds_cons _ _ _ _ _ _ _ _ _ (@snd_str _ _ _ _ _ _ _ _ _ (by law_fin)) (@snds_nil _ _ _ _ _) (by law_fin)) (by law_fin)) (by law_fin)) (by law_fin))) (by law_fin)) (@sndb_cons _ _ _ _ _ _ _ _ _ (@snds_ret _ _ _ _ _ _ _ _ (@snd_loc _ _ _ _ _ _ _ (i := 1) rfl rfl (by law_fin)))
      (@sndb_nil _ _ _ _ _)) (@sndb_nil _ _ _ _ _))
      (@sndb_cons _ _ _ _ _ _ _ _ _ (@snds_asg _ _ _ _ _ _ _ _ _ _ _ rfl rfl (@snd_sub _ _ _ _ _ _ _ _ _ _ (@snd_attr _ _ _ _ _ _ _ _ _ _ (@snd_loc _ _ _ _ _ _ _ (i := 0) rfl rfl (by law_fin)) n_items (by law_fin)) (@snd_int _ _ _ _ _ _ _ _) (fun _ _ _ => rfl)) (.inl (by law_fin)) (fun _ => rfl))
      (@sndb_cons _ _ _ _ _ _ _ _ _ (@snds_if _ _ _ _ _ _ _ _ _ _ _ _ (@sndT_cmp _ _ _ _ _ _ _ _ _ _ _ _ cmp_eq (@snd_attr _ _ _ _ _ _ _ _ _ _ (@snd_loc _ _ _ _ _ _ _ (i := 0) rfl rfl (by law_fin)) n_kind (by law_fin)) (@snd_str _ _ _ _ _ _ _ _ _ (by law_fin)) (by law_fin)) (@sndb_cons _ _ _ _ _ _ _ _ _ (@snds_ret _ _ _ _ _ _ _ _ (@snd_ife _ _ _ _ _ _ _ _ _ _ _ _ (@sndT_cmp _ _ _ _ _ _ _ _ _ _ _ _ cmp_is (@snd_loc _ _ _ _ _ _ _ (i := 2) rfl rfl (by law_fin)) (@snd_none _ _ _ _ _ _ _) (by law_fin)) (@snd_str _ _ _ _ _ _ _ _ _ (by law_fin)) (@snd_cmp _ _ _ _ _ _ _ _ _ _ _ _ cmp_eq (@snd_loc _ _ _ _ _ _ _ (i := 2) rfl rfl (by law_fin)) (@snd_int _ _ _ _ _ _ _ _) (by law_fin))))
      (@sndb_nil _ _ _ _ _)) (@sndb_nil _ _ _ _ _))
      (@sndb_cons _ _ _ _ _ _ _ _ _ (@snds_if _ _ _ _ _ _ _ _ _ _ _ _ (@sndT_or _ _ _ _ _ _ _ _ _ _ _ (@sndT_cmp _ _ _ _ _ _ _ _ _ _ _ _ cmp_is (@snd_loc _ _ _ _ _ _ _ (i := 2) rfl rfl (by law_fin)) (@snd_none _ _ _ _ _ _ _) (by law_fin)) (@sndT_or1 _ _ _ _ _ _ _ _ (@sndT_cmp _ _ _ _ _ _ _ _ _ _ _ _ cmp_eq (@snd_loc _ _ _ _ _ _ _ (i := 2) rfl rfl (by law_fin)) (@snd_tup _ _ _ _ _ _ _ _ _ (@snds_cons _ _ _ _ _ _ _ _ _ (@snd_int _ _ _ _ _ _ _ _) (@snds_cons _ _ _ _ _ _ _ _ _ (@snd_int _ _ _ _ _ _ _ _) (@snds_nil _ _ _ _ _) (by law_fin)) (by law_fin))) (by law_fin)))) (@sndb_cons _ _ _ _ _ _ _ _ _ (@snds_ret _ _ _ _ _ _ _ _ (@snd_loc _ _ _ _ _ _ _ (i := 1) rfl rfl (by law_fin)))
      (@sndb_nil _ _ _ _ _)) (@sndb_nil _ _ _ _ _))
      (@sndb_cons _ _ _ _ _ _ _ _ _ (@snds_if _ _ _ _ _ _ _ _ _ _ _ _ (@sndT_cmp _ _ _ _ _ _ _ _ _ _ _ _ cmp_eq (@snd_attr _ _ _ _ _ _ _ _ _ _ (@snd_loc _ _ _ _ _ _ _ (i := 0) rfl rfl (by law_fin)) n_kind (by law_fin)) (@snd_str _ _ _ _ _ _ _ _ _ (by law_fin)) (by law_fin)) (@sndb_cons _ _ _ _ _ _ _ _ _ (@snds_if _ _ _ _ _ _ _ _ _ _ _ _ (@sndT_cmp _ _ _ _ _ _ _ _ _ _ _ _ cmp_in (@snd_loc _ _ _ _ _ _ _ (i := 2) rfl rfl (by law_fin)) (@snd_list _ _ _ _ _ _ _ _ (@snds_cons _ _ _ _ _ _ _ _ _ (@snd_str _ _ _ _ _ _ _ _ _ (by law_fin)) (@snds_cons _ _ _ _ _ _ _ _ _ (@snd_str _ _ _ _ _ _ _ _ _ (by law_fin)) (@snds_cons _ _ _ _ _ _ _ _ _ (@snd_str _ _ _ _ _ _ _ _ _ (by law_fin)) (@snds_cons _ _ _ _ _ _ _ _ _ (@snd_str _ _ _ _ _ _ _ _ _ (by law_fin)) (@snds_nil _ _ _ _ _) (by law_fin)) (by law_fin)) (by law_fin)) (by law_fin))) (by law_fin)) (@sndb_cons _ _ _ _ _ _ _ _ _ (@snds_ret _ _ _ _ _ _ _ _ (@snd_bool _ _ _ _ _ _ _ _))
      (@sndb_nil _ _ _ _ _)) (@sndb_nil _ _ _ _ _))
      (@sndb_cons _ _ _ _ _ _ _ _ _ (@snds_ret _ _ _ _ _ _ _ _ (@snd_ife _ _ _ _ _ _ _ _ _ _ _ _ (@sndT_cmp _ _ _ _ _ _ _ _ _ _ _ _ cmp_in (@snd_loc _ _ _ _ _ _ _ (i := 2) rfl rfl (by law_fin)) (@snd_list _ _ _ _ _ _ _ _ (@snds_cons _ _ _ _ _ _ _ _ _ (@snd_str _ _ _ _ _ _ _ _ _ (by law_fin)) (@snds_cons _ _ _ _ _ _ _ _ _ (@snd_str _ _ _ _ _ _ _ _ _ (by law_fin)) (@snds_cons _ _ _ _ _ _ _ _ _ (@snd_str _ _ _ _ _ _ _ _ _ (by law_fin)) (@snds_cons _ _ _ _ _ _ _ _ _ (@snd_str _ _ _ _ _ _ _ _ _ (by law_fin)) (@snds_nil _ _ _ _ _) (by law_fin)) (by law_fin)) (by law_fin)) (by law_fin))) (by law_fin)) (@snd_bool _ _ _ _ _ _ _ _) (@snd_loc _ _ _ _ _ _ _ (i := 1) rfl rfl (by law_fin))))
      (@sndb_nil _ _ _ _ _))) (@sndb_nil _ _ _ _ _))
      (@sndb_cons _ _ _ _ _ _ _ _ _ (@snds_ret _ _ _ _ _ _ _ _ (@snd_ife _ _ _ _ _ _ _ _ _ _ _ _ (@sndT_cmp _ _ _ _ _ _ _ _ _ _ _ _ cmp_eq (@snd_attr _ _ _ _ _ _ _ _ _ _ (@snd_loc _ _ _ _ _ _ _ (i := 0) rfl rfl (by law_fin)) n_kind (by law_fin)) (@snd_str _ _ _ _ _ _ _ _ _ (by law_fin)) (by law_fin)) (@snd_cmp _ _ _ _ _ _ _ _ _ _ _ _ cmp_ne (@snd_loc _ _ _ _ _ _ _ (i := 2) rfl rfl (by law_fin)) (@snd_tup _ _ _ _ _ _ _ _ _ (@snds_cons _ _ _ _ _ _ _ _ _ (@snd_int _ _ _ _ _ _ _ _) (@snds_cons _ _ _ _ _ _ _ _ _ (@snd_int _ _ _ _ _ _ _ _) (@snds_nil _ _ _ _ _) (by law_fin)) (by law_fin))) (by law_fin)) (@snd_cmp _ _ _ _ _ _ _ _ _ _ _ _ cmp_ne (@snd_loc _ _ _ _ _ _ _ (i := 2) rfl rfl (by law_fin)) (@snd_int _ _ _ _ _ _ _ _) (by law_fin))))
      (@sndb_nil _ _ _ _ _)))))))))

end
noncomputable def f615 : Sb := (blk [sIff (xCmp .eq (xAttr (xLoc 0) 0) (xStr [108, 97, 110, 103, 117, 97, 103, 101])) (blk [sAsg 1 (xComp (xIfe (xCmp .is xCv xNone) (xStr []) xCv) (xAttr (xLoc 0) 6)), sRet (xIfe (xCmp .ne (xJoin (xLoc 1)) (xStr [])) (xLoc 1) xNone)]) (blk []), sIff (xAnd [(xIsI (xLoc 0)), (xCmp .isnt (xAttr (xLoc 0) 2) xNone)]) (blk [sRet (xAttr (xSubK (xAttr (xLoc 0) 2) (xStr [110, 97, 109, 101, 115])) 1)]) (blk []), sRet xNone])
noncomputable def f589 : Sb := (blk [sAsg 2 (xTake [(xLoc 0), (xInt 5)]), sIff (xCmp .lt (xLoc 2) (xInt 2)) (blk [sRet (xCls 314 [(xStr [105, 110, 116, 101, 103, 101, 114]), (xList [(xTake [(xLoc 0), (xInt 660)])])])]) (blk []), sIff (xCmp .eq (xLoc 2) (xInt 2)) (blk [sRet (xCls 335 [(xAdd (xStr [115]) (xStrf (xTake [(xLoc 0), (xInt 660)])))])]) (blk []), sIff (xCmp .eq (xLoc 2) (xInt 3)) (blk [sRet (xCls 314 [(xStr [99, 104, 97, 114, 97, 99, 116, 101, 114]), (xMul (xList [(xAdd (xStr [119]) (xStrf (xTake [(xLoc 0), (xInt 660)])))]) (xAdd (xInt 1) (xTake [(xLoc 0), (xInt 2)])))])]) (blk []), sRet (xCls 379 [(xList []), (xCls 335 [(xAdd (xStr [98]) (xStrf (xTake [(xLoc 0), (xInt 660)])))]), (xCls 401 [(xInt 1), xNone])])])
noncomputable def f577 : Sb := (blk [sIff (xCmp .eq (xTake [(xLoc 0), (xInt 3)]) (xInt 1)) (blk [sAsgA (xLoc 1) 2 (xDict1 [110, 97, 109, 101, 115] (xFn 1 f412 [(xComp (xAdd (xStr [110]) (xStrf (xTake [(xLoc 0), (xInt 660)]))) (xAttr (xLoc 1) 1))])), sIff (xCmp .eq (xTake [(xLoc 0), (xInt 2)]) (xInt 1)) (blk [sAsgK (xAttr (xLoc 1) 2) (xStr [117, 110, 105, 116]) (xCls 314 [(xStr [108, 111, 103, 105, 99, 97, 108]), (xList [(xInt 1)])])]) (blk [])]) (blk []), sRet (xLoc 1)])
noncomputable def f572 : Sb := (blk [sAsg 3 (xSub (xList [(xStr [108, 111, 103, 105, 99, 97, 108]), (xStr [105, 110, 116, 101, 103, 101, 114]), (xStr [100, 111, 117, 98, 108, 101]), (xStr [99, 104, 97, 114, 97, 99, 116, 101, 114])]) (xTake [(xLoc 0), (xInt 4)])), sRet (xCls 314 [(xLoc 3), (xCompR (xItem [(xLoc 0), (xLoc 3), (xLoc 1)]) (xLoc 2))])])
section
variable (w : World) (mg mb : Str → Option Value) (means : ExcName → Option Value)
theorem s615 : SndF w mg mb means 615 1 1 (callF 2 f615) := by
  refine fn_snd (lev := 1) (ns := [Str.ofString "v", Str.ofString "heads"]) ?hb ?hns (by k_is) (by k_is) ?hbind ?hkind ?hnd ?hap ?hnp ?hco ?hgen ?hk
  case hns => decide +kernel
  case hbind => exact fun s => bind1 fun a0 => BindsTo.of_eq rfl
  case hkind => exact kinds_of (by decide +kernel)
  case hnd => decide +kernel
  case hap => (intro L; first | exact List.Pairwise.nil | (simp [cellsFrom]; done) | (simp [cellsFrom]; omega))
  case hnp => decide
  case hco => rfl
  case hgen => rfl
  case hk => rfl
  case hb =>
    exact (@sndb_cons _ _ _ _ _ _ _ _ _ (@snds_if _ _ _ _ _ _ _ _ _ _ _ _ (@sndT_cmp _ _ _ _ _ _ _ _ _ _ _ _ cmp_eq (@snd_attr _ _ _ _ _ _ _ _ _ _ (@snd_loc _ _ _ _ _ _ _ (i := 0) rfl rfl (by law_fin)) n_kind (by law_fin)) (@snd_str _ _ _ _ _ _ _ _ _ (by law_fin)) (by law_fin)) (@sndb_cons _ _ _ _ _ _ _ _ _ (@snds_asgC _ _ _ _ _ _ _ _ _ _ _ _ _ _ _ (c := ⟨_, _, (fun _ => [])⟩) (by exact ⟨rfl, rfl, rfl, by decide +kernel, by decide +kernel, by decide +kernel, fun _ => rfl, fun _ _ => rfl⟩) (@snd_ife _ _ _ _ _ _ _ _ _ _ _ _ (@sndT_cmp _ _ _ _ _ _ _ _ _ _ _ _ cmp_is (@snd_cv _ _ _ _ _ _ _ _ rfl rfl (by law_fin) (by law_fin)) (@snd_none _ _ _ _ _ _ _) (by law_fin)) (@snd_str _ _ _ _ _ _ _ _ _ (by law_fin)) (@snd_cv _ _ _ _ _ _ _ _ rfl rfl (by law_fin) (by law_fin))) (@snd_attr _ _ _ _ _ _ _ _ _ _ (@snd_loc _ _ _ _ _ _ _ (i := 0) rfl rfl (by law_fin)) n_tags (by law_fin)) rfl (.inl (by law_fin)) (fun _ => rfl))
      (@sndb_cons _ _ _ _ _ _ _ _ _ (@snds_ret _ _ _ _ _ _ _ _ (@snd_ife _ _ _ _ _ _ _ _ _ _ _ _ (@sndT_cmp _ _ _ _ _ _ _ _ _ _ _ _ cmp_ne (@snd_join _ _ _ _ _ _ _ _ _ _ _ (@snd_loc _ _ _ _ _ _ _ (i := 1) rfl rfl (by law_fin)) (fun _ => rfl) (by law_fin)) (@snd_str _ _ _ _ _ _ _ _ _ (by law_fin)) (by law_fin)) (@snd_loc _ _ _ _ _ _ _ (i := 1) rfl rfl (by law_fin)) (@snd_none _ _ _ _ _ _ _)))
      (@sndb_nil _ _ _ _ _))) (@sndb_nil _ _ _ _ _))
      (@sndb_cons _ _ _ _ _ _ _ _ _ (@snds_if _ _ _ _ _ _ _ _ _ _ _ _ (@sndT_and _ _ _ _ _ _ _ _ _ _ _ (@sndT_plain _ _ _ _ _ _ _ (@snd_isI _ _ _ _ _ _ _ _ _ _ _ _ (gb_isinstance _) (gf_Vector _) (by law_fin) (by law_fin) (by law_fin) (by law_fin) (@snd_loc _ _ _ _ _ _ _ (i := 0) rfl rfl (by law_fin)) (fun _ => rfl) (fun _ => rfl)) (fun _ _ => rfl)) (@sndT_and1 _ _ _ _ _ _ _ _ (@sndT_cmp _ _ _ _ _ _ _ _ _ _ _ _ cmp_isnt (@snd_attr _ _ _ _ _ _ _ _ _ _ (@snd_loc _ _ _ _ _ _ _ (i := 0) rfl rfl (by law_fin)) n_attrs (by law_fin)) (@snd_none _ _ _ _ _ _ _) (by law_fin)))) (@sndb_cons _ _ _ _ _ _ _ _ _ (@snds_ret _ _ _ _ _ _ _ _ (@snd_attr _ _ _ _ _ _ _ _ _ _ (@snd_subK _ _ _ _ _ _ _ _ _ _ (@snd_attr _ _ _ _ _ _ _ _ _ _ (@snd_loc _ _ _ _ _ _ _ (i := 0) rfl rfl (by law_fin)) n_attrs (by law_fin)) (@snd_str _ _ _ _ _ _ _ _ _ (by law_fin)) (fun _ _ _ => rfl)) n_items (by law_fin)))
      (@sndb_nil _ _ _ _ _)) (@sndb_nil _ _ _ _ _))
      (@sndb_cons _ _ _ _ _ _ _ _ _ (@snds_ret _ _ _ _ _ _ _ _ (@snd_none _ _ _ _ _ _ _))
      (@sndb_nil _ _ _ _ _))))

theorem s589 : SndF w mg mb means 589 2 4 (callF 3 f589) := by
  refine fn_snd (lev := 4) (ns := [Str.ofString "state", Str.ofString "script", Str.ofString "form"]) ?hb ?hns (by k_is) (by k_is) ?hbind ?hkind ?hnd ?hap ?hnp ?hco ?hgen ?hk
  case hns => decide +kernel
  case hbind => exact fun s => bind2 fun a0 a1 => BindsTo.of_eq rfl
  case hkind => exact kinds_of (by decide +kernel)
  case hnd => decide +kernel
  case hap => (intro L; first | exact List.Pairwise.nil | (simp [cellsFrom]; done) | (simp [cellsFrom]; omega))
  case hnp => decide
  case hco => rfl
  case hgen => rfl
  case hk => rfl
  case hb =>
    exact (@sndb_cons _ _ _ _ _ _ _ _ _ (@snds_asg _ _ _ _ _ _ _ _ _ _ _ rfl rfl (@snd_call _ _ _ _ _ _ _ _ _ _ _ _ _ _ _ (@take_snd _ _ _ _) (by law_fin) (by law_fin) (gf_law_take _) (by law_fin) (by law_fin) rfl (@snds_cons _ _ _ _ _ _ _ _ _ (@snd_loc _ _ _ _ _ _ _ (i := 0) rfl rfl (by law_fin)) (@snds_cons _ _ _ _ _ _ _ _ _ (@snd_int _ _ _ _ _ _ _ _) (@snds_nil _ _ _ _ _) (by law_fin)) (by law_fin)) (by law_fin) (fun _ _ => rfl)) (.inl (by law_fin)) (fun _ => rfl))
      (@sndb_cons _ _ _ _ _ _ _ _ _ (@snds_if _ _ _ _ _ _ _ _ _ _ _ _ (@sndT_cmp _ _ _ _ _ _ _ _ _ _ _ _ cmp_lt (@snd_loc _ _ _ _ _ _ _ (i := 2) rfl rfl (by law_fin)) (@snd_int _ _ _ _ _ _ _ _) (by law_fin)) (@sndb_cons _ _ _ _ _ _ _ _ _ (@snds_ret _ _ _ _ _ _ _ _ (@snd_call _ _ _ _ _ _ _ _ _ _ _ _ _ _ _ (@mkn_vec _ _ _ _) (by law_fin) (by law_fin) (gf_Vector _) (by law_fin) (by law_fin) rfl (@snds_cons _ _ _ _ _ _ _ _ _ (@snd_str _ _ _ _ _ _ _ _ _ (by law_fin)) (@snds_cons _ _ _ _ _ _ _ _ _ (@snd_list _ _ _ _ _ _ _ _ (@snds_cons _ _ _ _ _ _ _ _ _ (@snd_call _ _ _ _ _ _ _ _ _ _ _ _ _ _ _ (@take_snd _ _ _ _) (by law_fin) (by law_fin) (gf_law_take _) (by law_fin) (by law_fin) rfl (@snds_cons _ _ _ _ _ _ _ _ _ (@snd_loc _ _ _ _ _ _ _ (i := 0) rfl rfl (by law_fin)) (@snds_cons _ _ _ _ _ _ _ _ _ (@snd_int _ _ _ _ _ _ _ _) (@snds_nil _ _ _ _ _) (by law_fin)) (by law_fin)) (by law_fin) (fun _ _ => rfl)) (@snds_nil _ _ _ _ _) (by law_fin))) (@snds_nil _ _ _ _ _) (by law_fin)) (by law_fin)) (by law_fin) (fun _ _ => rfl)))
      (@sndb_nil _ _ _ _ _)) (@sndb_nil _ _ _ _ _))
      (@sndb_cons _ _ _ _ _ _ _ _ _ (@snds_if _ _ _ _ _ _ _ _ _ _ _ _ (@sndT_cmp _ _ _ _ _ _ _ _ _ _ _ _ cmp_eq (@snd_loc _ _ _ _ _ _ _ (i := 2) rfl rfl (by law_fin)) (@snd_int _ _ _ _ _ _ _ _) (by law_fin)) (@sndb_cons _ _ _ _ _ _ _ _ _ (@snds_ret _ _ _ _ _ _ _ _ (@snd_call _ _ _ _ _ _ _ _ _ _ _ _ _ _ _ (@mkn_sym _ _ _ _) (by law_fin) (by law_fin) (gf_Symbol _) (by law_fin) (by law_fin) rfl (@snds_cons _ _ _ _ _ _ _ _ _ (@snd_add _ _ _ _ _ _ _ _ _ _ (@snd_str _ _ _ _ _ _ _ _ _ (by law_fin)) (@snd_bi _ _ _ _ _ _ _ _ _ _ _ _ bi_str rfl (gb_str _) (.inr ⟨_, rfl⟩) (by law_fin) (by law_fin) (@snd_call _ _ _ _ _ _ _ _ _ _ _ _ _ _ _ (@take_snd _ _ _ _) (by law_fin) (by law_fin) (gf_law_take _) (by law_fin) (by law_fin) rfl (@snds_cons _ _ _ _ _ _ _ _ _ (@snd_loc _ _ _ _ _ _ _ (i := 0) rfl rfl (by law_fin)) (@snds_cons _ _ _ _ _ _ _ _ _ (@snd_int _ _ _ _ _ _ _ _) (@snds_nil _ _ _ _ _) (by law_fin)) (by law_fin)) (by law_fin) (fun _ _ => rfl)) (fun _ => rfl))) (@snds_nil _ _ _ _ _) (by law_fin)) (by law_fin) (fun _ _ => rfl)))
      (@sndb_nil _ _ _ _ _)) (@sndb_nil _ _ _ _ _))
      (@sndb_cons _ _ _ _ _ _ _ _ _ (@snds_if _ _ _ _ _ _ _ _ _ _ _ _ (@sndT_cmp _ _ _ _ _ _ _ _ _ _ _ _ cmp_eq (@snd_loc _ _ _ _ _ _ _ (i := 2) rfl rfl (by law_fin)) (@snd_int _ _ _ _ _ _ _ _) (by law_fin)) (@sndb_cons _ _ _ _ _ _ _ _ _ (@snds_ret _ _ _ _ _ _ _ _ (@snd_call _ _ _ _ _ _ _ _ _ _ _ _ _ _ _ (@mkn_vec _ _ _ _) (by law_fin) (by law_fin) (gf_Vector _) (by law_fin) (by law_fin) rfl (@snds_cons _ _ _ _ _ _ _ _ _ (@snd_str _ _ _ _ _ _ _ _ _ (by law_fin)) (@snds_cons _ _ _ _ _ _ _ _ _ (@snd_mul _ _ _ _ _ _ _ _ _ _ (@snd_list _ _ _ _ _ _ _ _ (@snds_cons _ _ _ _ _ _ _ _ _ (@snd_add _ _ _ _ _ _ _ _ _ _ (@snd_str _ _ _ _ _ _ _ _ _ (by law_fin)) (@snd_bi _ _ _ _ _ _ _ _ _ _ _ _ bi_str rfl (gb_str _) (.inr ⟨_, rfl⟩) (by law_fin) (by law_fin) (@snd_call _ _ _ _ _ _ _ _ _ _ _ _ _ _ _ (@take_snd _ _ _ _) (by law_fin) (by law_fin) (gf_law_take _) (by law_fin) (by law_fin) rfl (@snds_cons _ _ _ _ _ _ _ _ _ (@snd_loc _ _ _ _ _ _ _ (i := 0) rfl rfl (by law_fin)) (@snds_cons _ _ _ _ _ _ _ _ _ (@snd_int _ _ _ _ _ _ _ _) (@snds_nil _ _ _ _ _) (by law_fin)) (by law_fin)) (by law_fin) (fun _ _ => rfl)) (fun _ => rfl))) (@snds_nil _ _ _ _ _) (by law_fin))) (@snd_add _ _ _ _ _ _ _ _ _ _ (@snd_int _ _ _ _ _ _ _ _) (@snd_call _ _ _ _ _ _ _ _ _ _ _ _ _ _ _ (@take_snd _ _ _ _) (by law_fin) (by law_fin) (gf_law_take _) (by law_fin) (by law_fin) rfl (@snds_cons _ _ _ _ _ _ _ _ _ (@snd_loc _ _ _ _ _ _ _ (i := 0) rfl rfl (by law_fin)) (@snds_cons _ _ _ _ _ _ _ _ _ (@snd_int _ _ _ _ _ _ _ _) (@snds_nil _ _ _ _ _) (by law_fin)) (by law_fin)) (by law_fin) (fun _ _ => rfl)))) (@snds_nil _ _ _ _ _) (by law_fin)) (by law_fin)) (by law_fin) (fun _ _ => rfl)))
      (@sndb_nil _ _ _ _ _)) (@sndb_nil _ _ _ _ _))
      (@sndb_cons _ _ _ _ _ _ _ _ _ (@snds_ret _ _ _ _ _ _ _ _ (@snd_call _ _ _ _ _ _ _ _ _ _ _ _ _ _ _ (@mkn_clo _ _ _ _) (by law_fin) (by law_fin) (gf_Closure _) (by law_fin) (by law_fin) rfl (@snds_cons _ _ _ _ _ _ _ _ _ (@snd_list _ _ _ _ _ _ _ _ (@snds_nil _ _ _ _ _)) (@snds_cons _ _ _ _ _ _ _ _ _ (@snd_call _ _ _ _ _ _ _ _ _ _ _ _ _ _ _ (@mkn_sym _ _ _ _) (by law_fin) (by law_fin) (gf_Symbol _) (by law_fin) (by law_fin) rfl (@snds_cons _ _ _ _ _ _ _ _ _ (@snd_add _ _ _ _ _ _ _ _ _ _ (@snd_str _ _ _ _ _ _ _ _ _ (by law_fin)) (@snd_bi _ _ _ _ _ _ _ _ _ _ _ _ bi_str rfl (gb_str _) (.inr ⟨_, rfl⟩) (by law_fin) (by law_fin) (@snd_call _ _ _ _ _ _ _ _ _ _ _ _ _ _ _ (@take_snd _ _ _ _) (by law_fin) (by law_fin) (gf_law_take _) (by law_fin) (by law_fin) rfl (@snds_cons _ _ _ _ _ _ _ _ _ (@snd_loc _ _ _ _ _ _ _ (i := 0) rfl rfl (by law_fin)) (@snds_cons _ _ _ _ _ _ _ _ _ (@snd_int _ _ _ _ _ _ _ _) (@snds_nil _ _ _ _ _) (by law_fin)) (by law_fin)) (by law_fin) (fun _ _ => rfl)) (fun _ => rfl))) (@snds_nil _ _ _ _ _) (by law_fin)) (by law_fin) (fun _ _ => rfl)) (@snds_cons _ _ _ _ _ _ _ _ _ (@snd_call _ _ _ _ _ _ _ _ _ _ _ _ _ _ _ (@mkn_env _ _ _ _) (by law_fin) (by law_fin) (gf_Environment _) (by law_fin) (by law_fin) rfl (@snds_cons _ _ _ _ _ _ _ _ _ (@snd_int _ _ _ _ _ _ _ _) (@snds_cons _ _ _ _ _ _ _ _ _ (@snd_none _ _ _ _ _ _ _) (@snds_nil _ _ _ _ _) (by law_fin)) (by law_fin)) (by law_fin) (fun _ _ => rfl)) (@snds_nil _ _ _ _ _) (by law_fin)) (by law_fin)) (by law_fin)) (by law_fin) (fun _ _ => rfl)))
      (@sndb_nil _ _ _ _ _))))))

theorem s577 : SndF w mg mb means 577 2 5 (callF 2 f577) := by
  refine fn_snd (lev := 5) (ns := [Str.ofString "state", Str.ofString "v"]) ?hb ?hns (by k_is) (by k_is) ?hbind ?hkind ?hnd ?hap ?hnp ?hco ?hgen ?hk
  case hns => decide +kernel
  case hbind => exact fun s => bind2 fun a0 a1 => BindsTo.of_eq rfl
  case hkind => exact kinds_of (by decide +kernel)
  case hnd => decide +kernel
  case hap => (intro L; first | exact List.Pairwise.nil | (simp [cellsFrom]; done) | (simp [cellsFrom]; omega))
  case hnp => decide
  case hco => rfl
  case hgen => rfl
  case hk => rfl
  case hb =>
    exact (@sndb_cons _ _ _ _ _ _ _ _ _ (@snds_if _ _ _ _ _ _ _ _ _ _ _ _ (@sndT_cmp _ _ _ _ _ _ _ _ _ _ _ _ cmp_eq (@snd_call _ _ _ _ _ _ _ _ _ _ _ _ _ _ _ (@take_snd _ _ _ _) (by law_fin) (by law_fin) (gf_law_take _) (by law_fin) (by law_fin) rfl (@snds_cons _ _ _ _ _ _ _ _ _ (@snd_loc _ _ _ _ _ _ _ (i := 0) rfl rfl (by law_fin)) (@snds_cons _ _ _ _ _ _ _ _ _ (@snd_int _ _ _ _ _ _ _ _) (@snds_nil _ _ _ _ _) (by law_fin)) (by law_fin)) (by law_fin) (fun _ _ => rfl)) (@snd_int _ _ _ _ _ _ _ _) (by law_fin)) (@sndb_cons _ _ _ _ _ _ _ _ _ (@snds_asgP _ _ _ _ _ _ _ _ _ _ _ _ _ (.inr trivial) (@snd_dict1 _ _ _ _ _ _ _ _ _ _ _ _ (by law_fin) (@snd_call _ _ _ _ _ _ _ _ _ _ _ _ _ _ _ (@s412 w mg mb means) (by law_fin) (by law_fin) (gf_character _) (by law_fin) (by law_fin) rfl (@snds_cons _ _ _ _ _ _ _ _ _ (@snd_comp _ _ _ _ _ _ _ _ _ _ _ (c := ⟨_, _, (fun L => [(Str.ofString "state", L + 1)])⟩) (by exact ⟨rfl, rfl, rfl, by decide +kernel, by decide +kernel, by decide +kernel, fun _ => rfl, fun _ _ => rfl⟩) (@snd_add _ _ _ _ _ _ _ _ _ _ (@snd_str _ _ _ _ _ _ _ _ _ (by law_fin)) (@snd_bi _ _ _ _ _ _ _ _ _ _ _ _ bi_str rfl (gb_str _) (.inr ⟨_, rfl⟩) (by law_fin) (by law_fin) (@snd_call _ _ _ _ _ _ _ _ _ _ _ _ _ _ _ (@take_snd _ _ _ _) (by law_fin) (by law_fin) (gf_law_take _) (by law_fin) (by law_fin) rfl (@snds_cons _ _ _ _ _ _ _ _ _ (@snd_locC _ _ _ _ _ _ _ _ (i := 0) rfl rfl (by law_fin) (by law_fin) (by law_fin) (fun _ => rfl)) (@snds_cons _ _ _ _ _ _ _ _ _ (@snd_int _ _ _ _ _ _ _ _) (@snds_nil _ _ _ _ _) (by law_fin)) (by law_fin)) (by law_fin) (fun _ _ => rfl)) (fun _ => rfl))) (@snd_attr _ _ _ _ _ _ _ _ _ _ (@snd_loc _ _ _ _ _ _ _ (i := 1) rfl rfl (by law_fin)) n_items (by law_fin))) (@snds_nil _ _ _ _ _) (by law_fin)) (by law_fin) (fun _ _ => rfl))) (@snd_loc _ _ _ _ _ _ _ (i := 1) rfl rfl (by law_fin)) n_attrs (fun _ => rfl))
      (@sndb_cons _ _ _ _ _ _ _ _ _ (@snds_if _ _ _ _ _ _ _ _ _ _ _ _ (@sndT_cmp _ _ _ _ _ _ _ _ _ _ _ _ cmp_eq (@snd_call _ _ _ _ _ _ _ _ _ _ _ _ _ _ _ (@take_snd _ _ _ _) (by law_fin) (by law_fin) (gf_law_take _) (by law_fin) (by law_fin) rfl (@snds_cons _ _ _ _ _ _ _ _ _ (@snd_loc _ _ _ _ _ _ _ (i := 0) rfl rfl (by law_fin)) (@snds_cons _ _ _ _ _ _ _ _ _ (@snd_int _ _ _ _ _ _ _ _) (@snds_nil _ _ _ _ _) (by law_fin)) (by law_fin)) (by law_fin) (fun _ _ => rfl)) (@snd_int _ _ _ _ _ _ _ _) (by law_fin)) (@sndb_cons _ _ _ _ _ _ _ _ _ (@snds_asgK _ _ _ _ _ _ _ _ _ _ _ _ _ (@snd_call _ _ _ _ _ _ _ _ _ _ _ _ _ _ _ (@mkn_vec _ _ _ _) (by law_fin) (by law_fin) (gf_Vector _) (by law_fin) (by law_fin) rfl (@snds_cons _ _ _ _ _ _ _ _ _ (@snd_str _ _ _ _ _ _ _ _ _ (by law_fin)) (@snds_cons _ _ _ _ _ _ _ _ _ (@snd_list _ _ _ _ _ _ _ _ (@snds_cons _ _ _ _ _ _ _ _ _ (@snd_int _ _ _ _ _ _ _ _) (@snds_nil _ _ _ _ _) (by law_fin))) (@snds_nil _ _ _ _ _) (by law_fin)) (by law_fin)) (by law_fin) (fun _ _ => rfl)) (@snd_attr _ _ _ _ _ _ _ _ _ _ (@snd_loc _ _ _ _ _ _ _ (i := 1) rfl rfl (by law_fin)) n_attrs (by law_fin)) (@snd_str _ _ _ _ _ _ _ _ _ (by law_fin)) (fun _ => rfl))
      (@sndb_nil _ _ _ _ _)) (@sndb_nil _ _ _ _ _))
      (@sndb_nil _ _ _ _ _))) (@sndb_nil _ _ _ _ _))
      (@sndb_cons _ _ _ _ _ _ _ _ _ (@snds_ret _ _ _ _ _ _ _ _ (@snd_loc _ _ _ _ _ _ _ (i := 1) rfl rfl (by law_fin)))
      (@sndb_nil _ _ _ _ _)))

theorem s572 : SndF w mg mb means 572 3 6 (callF 4 f572) := by
  refine fn_snd (lev := 6) (ns := [Str.ofString "state", Str.ofString "script", Str.ofString "size", Str.ofString "kind"]) ?hb ?hns (by k_is) (by k_is) ?hbind ?hkind ?hnd ?hap ?hnp ?hco ?hgen ?hk
  case hns => decide +kernel
  case hbind => exact fun s => bind3 fun a0 a1 a2 => BindsTo.of_eq rfl
  case hkind => exact kinds_of (by decide +kernel)
  case hnd => decide +kernel
  case hap => (intro L; first | exact List.Pairwise.nil | (simp [cellsFrom]; done) | (simp [cellsFrom]; omega))
  case hnp => decide
  case hco => rfl
  case hgen => rfl
  case hk => rfl
  case hb =>
    exact (@sndb_cons _ _ _ _ _ _ _ _ _ (@snds_asg _ _ _ _ _ _ _ _ _ _ _ rfl rfl (@snd_sub _ _ _ _ _ _ _ _ _ _ (@snd_list _ _ _ _ _ _ _ _ (@snds_cons _ _ _ _ _ _ _ _ _ (@snd_str _ _ _ _ _ _ _ _ _ (by law_fin)) (@snds_cons _ _ _ _ _ _ _ _ _ (@snd_str _ _ _ _ _ _ _ _ _ (by law_fin)) (@snds_cons _ _ _ _ _ _ _ _ _ (@snd_str _ _ _ _ _ _ _ _ _ (by law_fin)) (@snds_cons _ _ _ _ _ _ _ _ _ (@snd_str _ _ _ _ _ _ _ _ _ (by law_fin)) (@snds_nil _ _ _ _ _) (by law_fin)) (by law_fin)) (by law_fin)) (by law_fin))) (@snd_call _ _ _ _ _ _ _ _ _ _ _ _ _ _ _ (@take_snd _ _ _ _) (by law_fin) (by law_fin) (gf_law_take _) (by law_fin) (by law_fin) rfl (@snds_cons _ _ _ _ _ _ _ _ _ (@snd_loc _ _ _ _ _ _ _ (i := 0) rfl rfl (by law_fin)) (@snds_cons _ _ _ _ _ _ _ _ _ (@snd_int _ _ _ _ _ _ _ _) (@snds_nil _ _ _ _ _) (by law_fin)) (by law_fin)) (by law_fin) (fun _ _ => rfl)) (fun _ _ _ => rfl)) (.inr ⟨(by law_fin), fun _ => rfl⟩) (fun _ => rfl))
      (@sndb_cons _ _ _ _ _ _ _ _ _ (@snds_ret _ _ _ _ _ _ _ _ (@snd_call _ _ _ _ _ _ _ _ _ _ _ _ _ _ _ (@mkn_vec _ _ _ _) (by law_fin) (by law_fin) (gf_Vector _) (by law_fin) (by law_fin) rfl (@snds_cons _ _ _ _ _ _ _ _ _ (@snd_loc _ _ _ _ _ _ _ (i := 3) rfl rfl (by law_fin)) (@snds_cons _ _ _ _ _ _ _ _ _ (@snd_compR _ _ _ _ _ _ _ _ _ _ _ _ _ _ (c := ⟨_, _, (fun L => [(Str.ofString "state", L + 1), (Str.ofString "script", L + 2), (Str.ofString "kind", L + 3)])⟩) (by exact ⟨rfl, rfl, rfl, by decide +kernel, by decide +kernel, by decide +kernel, fun _ => rfl, fun _ _ => rfl⟩) (gb_range _) (by law_fin) (by law_fin) (fun _ => rfl) (@snd_call _ _ _ _ _ _ _ _ _ _ _ _ _ _ _ (@item_snd _ _ _ _) (by law_fin) (by law_fin) (gf_law_item _) (by law_fin) (by law_fin) rfl (@snds_cons _ _ _ _ _ _ _ _ _ (@snd_locC _ _ _ _ _ _ _ _ (i := 0) rfl rfl (by law_fin) (by law_fin) (by law_fin) (fun _ => rfl)) (@snds_cons _ _ _ _ _ _ _ _ _ (@snd_locC _ _ _ _ _ _ _ _ (i := 3) rfl rfl (by law_fin) (by law_fin) (by law_fin) (fun _ => rfl)) (@snds_cons _ _ _ _ _ _ _ _ _ (@snd_locC _ _ _ _ _ _ _ _ (i := 1) rfl rfl (by law_fin) (by law_fin) (by law_fin) (fun _ => rfl)) (@snds_nil _ _ _ _ _) (by law_fin)) (by law_fin)) (by law_fin)) (by law_fin) (fun _ _ => rfl)) (@snd_loc _ _ _ _ _ _ _ (i := 2) rfl rfl (by law_fin))) (@snds_nil _ _ _ _ _) (by law_fin)) (by law_fin)) (by law_fin) (fun _ _ => rfl)))
      (@sndb_nil _ _ _ _ _)))

end
noncomputable def f517 : Sb := (blk [sRet (xCls 75 [(xAdd (xAdd (xAdd (xAdd (xStr [99, 97, 110, 110, 111, 116, 32, 99, 111, 101, 114, 99, 101, 32, 116, 121, 112, 101, 32, 39]) (xAttr (xLoc 0) 0)) (xStr [39, 32, 116, 111, 32, 118, 101, 99, 116, 111, 114, 32, 111, 102, 32, 116, 121, 112, 101, 32, 39])) (xLoc 1)) (xStr [39]))])])
noncomputable def f510 : Sb := (blk [sIff (xAnd [(xCmp .eq (xLoc 2) (xStr [99, 104, 97, 114, 97, 99, 116, 101, 114])), (xCmp .eq (xAttr (xLoc 1) 0) (xStr [115, 121, 109, 98, 111, 108]))]) (blk [sRet (xAttr (xLoc 1) 5)]) (blk []), sIff (xOr [(xNot (xFn 1 f426 [(xLoc 1)])), (xCmp .ne (xFn 2 f419 [(xLoc 1)]) (xInt 1))]) (blk [sRaise (xCls 75 [(xAdd (xAdd (xAdd (xAdd (xStr [39]) (xLoc 0)) (xStr [39, 32, 111, 98, 106, 101, 99, 116, 32, 99, 97, 110, 110, 111, 116, 32, 98, 101, 32, 99, 111, 101, 114, 99, 101, 100, 32, 116, 111, 32, 116, 121, 112, 101, 32, 39])) (xLoc 2)) (xStr [39]))])]) (blk []), sRet (xFn 4 f496 [(xAttr (xLoc 1) 0), (xSub (xAttr (xLoc 1) 1) (xInt 0)), (xLoc 2), (xLoc 3)])])
noncomputable def f522 : Sb := (blk [sIff (xCmp .eq (xAttr (xLoc 0) 0) (xStr [78, 85, 76, 76])) (blk [sRet (xCls 314 [(xLoc 1), (xList [])])]) (blk []), sIff (xOr [(xCmp .eq (xLoc 1) (xStr [108, 105, 115, 116])), (xCmp .eq (xLoc 1) (xStr [101, 120, 112, 114, 101, 115, 115, 105, 111, 110])), (xCmp .eq (xLoc 1) (xStr [112, 97, 105, 114, 108, 105, 115, 116]))]) (blk [sIff (xAnd [(xCmp .eq (xAttr (xLoc 0) 0) (xStr [108, 97, 110, 103, 117, 97, 103, 101])), (xCmp .ne (xLoc 1) (xStr [101, 120, 112, 114, 101, 115, 115, 105, 111, 110]))]) (blk [sRet (xFn 2 f529 [(xCls 314 [(xLoc 1), (xComp (xFn 1 f433 [xCv]) (xAttr (xLoc 0) 1))]), (xFn 5 f33 [(xLoc 0)])])]) (blk []), sIff (xOr [(xCmp .eq (xAttr (xLoc 0) 0) (xStr [115, 121, 109, 98, 111, 108])), (xCmp .eq (xAttr (xLoc 0) 0) (xStr [108, 97, 110, 103, 117, 97, 103, 101])), (xCmp .eq (xLoc 1) (xStr [108, 105, 115, 116]))]) (blk [sRet (xCls 314 [(xLoc 1), (xList [(xFn 1 f433 [(xLoc 0)])])])]) (blk []), sRaise (xFn 2 f517 [(xLoc 0), (xLoc 1)])]) (blk []), sIff (xAnd [(xCmp .eq (xAttr (xLoc 0) 0) (xStr [115, 121, 109, 98, 111, 108])), (xCmp .eq (xLoc 1) (xStr [99, 104, 97, 114, 97, 99, 116, 101, 114]))]) (blk [sRet (xCls 314 [(xLoc 1), (xList [(xAttr (xLoc 0) 5)])])]) (blk []), sIff (xAnd [(xCmp .eq (xAttr (xLoc 0) 0) (xStr [108, 97, 110, 103, 117, 97, 103, 101])), (xCmp .eq (xLoc 1) (xStr [99, 104, 97, 114, 97, 99, 116, 101, 114]))]) (blk [sRet (xCls 314 [(xLoc 1), (xCompE (xFn 4 f510 [(xStr [108, 97, 110, 103, 117, 97, 103, 101]), xCv, (xLoc 1), (xList [])]) (xAttr (xLoc 0) 1))])]) (blk []), sRaise (xFn 2 f517 [(xLoc 0), (xLoc 1)])])
noncomputable def f534 : Sb := (blk [sIff (xNot (xIsI (xLoc 0))) (blk [sRet (xFn 2 f522 [(xLoc 0), (xLoc 1)])]) (blk []), sAsg 3 (xAttr (xLoc 0) 1), sIff (xCmp .ne (xAttr (xLoc 0) 0) (xLoc 1)) (blk [sAsg 3 (xComp (xFn 4 f496 [(xAttr (xLoc 0) 0), xCv, (xLoc 1), (xLoc 2)]) (xAttr (xLoc 0) 1))]) (blk []), sRet (xFn 2 f529 [(xCls 314 [(xLoc 1), (xLst (xLoc 3))]), (xFn 5 f33 [(xLoc 0)])])])
noncomputable def f541 : Sb := (blk [sRet (xFn 4 f534 [(xLoc 0), (xStr [108, 105, 115, 116]), (xList [])])])
section
variable (w : World) (mg mb : Str → Option Value) (means : ExcName → Option Value)
theorem s517 : SndF w mg mb means 517 2 4 (callF 2 f517) := by
  refine fn_snd (lev := 4) (ns := [Str.ofString "v", Str.ofString "kind"]) ?hb ?hns (by k_is) (by k_is) ?hbind ?hkind ?hnd ?hap ?hnp ?hco ?hgen ?hk
  case hns => decide +kernel
  case hbind => exact fun s => bind2 fun a0 a1 => BindsTo.of_eq rfl
  case hkind => exact kinds_of (by decide +kernel)
  case hnd => decide +kernel
  case hap => (intro L; first | exact List.Pairwise.nil | (simp [cellsFrom]; done) | (simp [cellsFrom]; omega))
  case hnp => decide
  case hco => rfl
  case hgen => rfl
  case hk => rfl
  case hb =>
    exact (@sndb_cons _ _ _ _ _ _ _ _ _ (@snds_ret _ _ _ _ _ _ _ _ (@snd_call _ _ _ _ _ _ _ _ _ _ _ _ _ _ _ (@mkn_exc _ _ _ _) (by law_fin) (by law_fin) (gf_Refusal _) (by law_fin) (by law_fin) rfl (@snds_cons _ _ _ _ _ _ _ _ _ (@snd_add _ _ _ _ _ _ _ _ _ _ (@snd_add _ _ _ _ _ _ _ _ _ _ (@snd_add _ _ _ _ _ _ _ _ _ _ (@snd_add _ _ _ _ _ _ _ _ _ _ (@snd_str _ _ _ _ _ _ _ _ _ (by law_fin)) (@snd_attr _ _ _ _ _ _ _ _ _ _ (@snd_loc _ _ _ _ _ _ _ (i := 0) rfl rfl (by law_fin)) n_kind (by law_fin))) (@snd_str _ _ _ _ _ _ _ _ _ (by law_fin))) (@snd_loc _ _ _ _ _ _ _ (i := 1) rfl rfl (by law_fin))) (@snd_str _ _ _ _ _ _ _ _ _ (by law_fin))) (@snds_nil _ _ _ _ _) (by law_fin)) (by law_fin) (fun _ _ => rfl)))
      (@sndb_nil _ _ _ _ _))

theorem s510 : SndF w mg mb means 510 4 5 (callF 4 f510) := by
  refine fn_snd (lev := 5) (ns := [Str.ofString "kind", Str.ofString "item", Str.ofString "to", Str.ofString "notes"]) ?hb ?hns (by k_is) (by k_is) ?hbind ?hkind ?hnd ?hap ?hnp ?hco ?hgen ?hk
  case hns => decide +kernel
  case hbind => exact fun s => bind4 fun a0 a1 a2 a3 => BindsTo.of_eq rfl
  case hkind => exact kinds_of (by decide +kernel)
  case hnd => decide +kernel
  case hap => (intro L; first | exact List.Pairwise.nil | (simp [cellsFrom]; done) | (simp [cellsFrom]; omega))
  case hnp => decide
  case hco => rfl
  case hgen => rfl
  case hk => rfl
  case hb =>
    exact (@sndb_cons _ _ _ _ _ _ _ _ _ (@snds_if _ _ _ _ _ _ _ _ _ _ _ _ (@sndT_and _ _ _ _ _ _ _ _ _ _ _ (@sndT_cmp _ _ _ _ _ _ _ _ _ _ _ _ cmp_eq (@snd_loc _ _ _ _ _ _ _ (i := 2) rfl rfl (by law_fin)) (@snd_str _ _ _ _ _ _ _ _ _ (by law_fin)) (by law_fin)) (@sndT_and1 _ _ _ _ _ _ _ _ (@sndT_cmp _ _ _ _ _ _ _ _ _ _ _ _ cmp_eq (@snd_attr _ _ _ _ _ _ _ _ _ _ (@snd_loc _ _ _ _ _ _ _ (i := 1) rfl rfl (by law_fin)) n_kind (by law_fin)) (@snd_str _ _ _ _ _ _ _ _ _ (by law_fin)) (by law_fin)))) (@sndb_cons _ _ _ _ _ _ _ _ _ (@snds_ret _ _ _ _ _ _ _ _ (@snd_attr _ _ _ _ _ _ _ _ _ _ (@snd_loc _ _ _ _ _ _ _ (i := 1) rfl rfl (by law_fin)) n_name (by law_fin)))
      (@sndb_nil _ _ _ _ _)) (@sndb_nil _ _ _ _ _))
      (@sndb_cons _ _ _ _ _ _ _ _ _ (@snds_if _ _ _ _ _ _ _ _ _ _ _ _ (@sndT_or _ _ _ _ _ _ _ _ _ _ _ (@sndT_not _ _ _ _ _ _ _ _ (@sndT_plain _ _ _ _ _ _ _ (@snd_call _ _ _ _ _ _ _ _ _ _ _ _ _ _ _ (@s426 w mg mb means) (by law_fin) (by law_fin) (gf_is_atomic _) (by law_fin) (by law_fin) rfl (@snds_cons _ _ _ _ _ _ _ _ _ (@snd_loc _ _ _ _ _ _ _ (i := 1) rfl rfl (by law_fin)) (@snds_nil _ _ _ _ _) (by law_fin)) (by law_fin) (fun _ _ => rfl)) (fun _ _ => rfl))) (@sndT_or1 _ _ _ _ _ _ _ _ (@sndT_cmp _ _ _ _ _ _ _ _ _ _ _ _ cmp_ne (@snd_call _ _ _ _ _ _ _ _ _ _ _ _ _ _ _ (@s419 w mg mb means) (by law_fin) (by law_fin) (gf_length _) (by law_fin) (by law_fin) rfl (@snds_cons _ _ _ _ _ _ _ _ _ (@snd_loc _ _ _ _ _ _ _ (i := 1) rfl rfl (by law_fin)) (@snds_nil _ _ _ _ _) (by law_fin)) (by law_fin) (fun _ _ => rfl)) (@snd_int _ _ _ _ _ _ _ _) (by law_fin)))) (@sndb_cons _ _ _ _ _ _ _ _ _ (@snds_raise _ _ _ _ _ _ _ _ rfl (@snd_call _ _ _ _ _ _ _ _ _ _ _ _ _ _ _ (@mkn_exc _ _ _ _) (by law_fin) (by law_fin) (gf_Refusal _) (by law_fin) (by law_fin) rfl (@snds_cons _ _ _ _ _ _ _ _ _ (@snd_add _ _ _ _ _ _ _ _ _ _ (@snd_add _ _ _ _ _ _ _ _ _ _ (@snd_add _ _ _ _ _ _ _ _ _ _ (@snd_add _ _ _ _ _ _ _ _ _ _ (@snd_str _ _ _ _ _ _ _ _ _ (by law_fin)) (@snd_loc _ _ _ _ _ _ _ (i := 0) rfl rfl (by law_fin))) (@snd_str _ _ _ _ _ _ _ _ _ (by law_fin))) (@snd_loc _ _ _ _ _ _ _ (i := 2) rfl rfl (by law_fin))) (@snd_str _ _ _ _ _ _ _ _ _ (by law_fin))) (@snds_nil _ _ _ _ _) (by law_fin)) (by law_fin) (fun _ _ => rfl)))
      (@sndb_nil _ _ _ _ _)) (@sndb_nil _ _ _ _ _))
      (@sndb_cons _ _ _ _ _ _ _ _ _ (@snds_ret _ _ _ _ _ _ _ _ (@snd_call _ _ _ _ _ _ _ _ _ _ _ _ _ _ _ (@s496 w mg mb means) (by law_fin) (by law_fin) (gf_item_as _) (by law_fin) (by law_fin) rfl (@snds_cons _ _ _ _ _ _ _ _ _ (@snd_attr _ _ _ _ _ _ _ _ _ _ (@snd_loc _ _ _ _ _ _ _ (i := 1) rfl rfl (by law_fin)) n_kind (by law_fin)) (@snds_cons _ _ _ _ _ _ _ _ _ (@snd_sub _ _ _ _ _ _ _ _ _ _ (@snd_attr _ _ _ _ _ _ _ _ _ _ (@snd_loc _ _ _ _ _ _ _ (i := 1) rfl rfl (by law_fin)) n_items (by law_fin)) (@snd_int _ _ _ _ _ _ _ _) (fun _ _ _ => rfl)) (@snds_cons _ _ _ _ _ _ _ _ _ (@snd_loc _ _ _ _ _ _ _ (i := 2) rfl rfl (by law_fin)) (@snds_cons _ _ _ _ _ _ _ _ _ (@snd_loc _ _ _ _ _ _ _ (i := 3) rfl rfl (by law_fin)) (@snds_nil _ _ _ _ _) (by law_fin)) (by law_fin)) (by law_fin)) (by law_fin)) (by law_fin) (fun _ _ => rfl)))
      (@sndb_nil _ _ _ _ _))))

theorem s522 : SndF w mg mb means 522 2 6 (callF 2 f522) := by
  refine fn_snd (lev := 6) (ns := [Str.ofString "v", Str.ofString "kind"]) ?hb ?hns (by k_is) (by k_is) ?hbind ?hkind ?hnd ?hap ?hnp ?hco ?hgen ?hk
  case hns => decide +kernel
  case hbind => exact fun s => bind2 fun a0 a1 => BindsTo.of_eq rfl
  case hkind => exact kinds_of (by decide +kernel)
  case hnd => decide +kernel
  case hap => (intro L; first | exact List.Pairwise.nil | (simp [cellsFrom]; done) | (simp [cellsFrom]; omega))
  case hnp => decide
  case hco => rfl
  case hgen => rfl
  case hk => rfl
  case hb =>
    exact (@sndb_cons _ _ _ _ _ _ _ _ _ (@snds_if _ _ _ _ _ _ _ _ _ _ _ _ (@sndT_cmp _ _ _ _ _ _ _ _ _ _ _ _ cmp_eq (@snd_attr _ _ _ _ _ _ _ _ _ _ (@snd_loc _ _ _ _ _ _ _ (i := 0) rfl rfl (by law_fin)) n_kind (by law_fin)) (@snd_str _ _ _ _ _ _ _ _ _ (by law_fin)) (by law_fin)) (@sndb_cons _ _ _ _ _ _ _ _ _ (@snds_ret _ _ _ _ _ _ _ _ (@snd_call _ _ _ _ _ _ _ _ _ _ _ _ _ _ _ (@mkn_vec _ _ _ _) (by law_fin) (by law_fin) (gf_Vector _) (by law_fin) (by law_fin) rfl (@snds_cons _ _ _ _ _ _ _ _ _ (@snd_loc _ _ _ _ _ _ _ (i := 1) rfl rfl (by law_fin)) (@snds_cons _ _ _ _ _ _ _ _ _ (@snd_list _ _ _ _ _ _ _ _ (@snds_nil _ _ _ _ _)) (@snds_nil _ _ _ _ _) (by law_fin)) (by law_fin)) (by law_fin) (fun _ _ => rfl)))
      (@sndb_nil _ _ _ _ _)) (@sndb_nil _ _ _ _ _))
      (@sndb_cons _ _ _ _ _ _ _ _ _ (@snds_if _ _ _ _ _ _ _ _ _ _ _ _ (@sndT_or _ _ _ _ _ _ _ _ _ _ _ (@sndT_cmp _ _ _ _ _ _ _ _ _ _ _ _ cmp_eq (@snd_loc _ _ _ _ _ _ _ (i := 1) rfl rfl (by law_fin)) (@snd_str _ _ _ _ _ _ _ _ _ (by law_fin)) (by law_fin)) (@sndT_or _ _ _ _ _ _ _ _ _ _ _ (@sndT_cmp _ _ _ _ _ _ _ _ _ _ _ _ cmp_eq (@snd_loc _ _ _ _ _ _ _ (i := 1) rfl rfl (by law_fin)) (@snd_str _ _ _ _ _ _ _ _ _ (by law_fin)) (by law_fin)) (@sndT_or1 _ _ _ _ _ _ _ _ (@sndT_cmp _ _ _ _ _ _ _ _ _ _ _ _ cmp_eq (@snd_loc _ _ _ _ _ _ _ (i := 1) rfl rfl (by law_fin)) (@snd_str _ _ _ _ _ _ _ _ _ (by law_fin)) (by law_fin))))) (@sndb_cons _ _ _ _ _ _ _ _ _ (@snds_if _ _ _ _ _ _ _ _ _ _ _ _ (@sndT_and _ _ _ _ _ _ _ _ _ _ _ (@sndT_cmp _ _ _ _ _ _ _ _ _ _ _ _ cmp_eq (@snd_attr _ _ _ _ _ _ _ _ _ _ (@snd_loc _ _ _ _ _ _ _ (i := 0) rfl rfl (by law_fin)) n_kind (by law_fin)) (@snd_str _ _ _ _ _ _ _ _ _ (by law_fin)) (by law_fin)) (@sndT_and1 _ _ _ _ _ _ _ _ (@sndT_cmp _ _ _ _ _ _ _ _ _ _ _ _ cmp_ne (@snd_loc _ _ _ _ _ _ _ (i := 1) rfl rfl (by law_fin)) (@snd_str _ _ _ _ _ _ _ _ _ (by law_fin)) (by law_fin)))) (@sndb_cons _ _ _ _ _ _ _ _ _ (@snds_ret _ _ _ _ _ _ _ _ (@snd_call _ _ _ _ _ _ _ _ _ _ _ _ _ _ _ (@s529 w mg mb means) (by law_fin) (by law_fin) (gf_with_names _) (by law_fin) (by law_fin) rfl (@snds_cons _ _ _ _ _ _ _ _ _ (@snd_call _ _ _ _ _ _ _ _ _ _ _ _ _ _ _ (@mkn_vec _ _ _ _) (by law_fin) (by law_fin) (gf_Vector _) (by law_fin) (by law_fin) rfl (@snds_cons _ _ _ _ _ _ _ _ _ (@snd_loc _ _ _ _ _ _ _ (i := 1) rfl rfl (by law_fin)) (@snds_cons _ _ _ _ _ _ _ _ _ (@snd_comp _ _ _ _ _ _ _ _ _ _ _ (c := ⟨_, _, (fun _ => [])⟩) (by exact ⟨rfl, rfl, rfl, by decide +kernel, by decide +kernel, by decide +kernel, fun _ => rfl, fun _ _ => rfl⟩) (@snd_call _ _ _ _ _ _ _ _ _ _ _ _ _ _ _ (@s433 w mg mb means) (by law_fin) (by law_fin) (gf_share _) (by law_fin) (by law_fin) rfl (@snds_cons _ _ _ _ _ _ _ _ _ (@snd_cv _ _ _ _ _ _ _ _ rfl rfl (by law_fin) (by law_fin)) (@snds_nil _ _ _ _ _) (by law_fin)) (by law_fin) (fun _ _ => rfl)) (@snd_attr _ _ _ _ _ _ _ _ _ _ (@snd_loc _ _ _ _ _ _ _ (i := 0) rfl rfl (by law_fin)) n_items (by law_fin))) (@snds_nil _ _ _ _ _) (by law_fin)) (by law_fin)) (by law_fin) (fun _ _ => rfl)) (@snds_cons _ _ _ _ _ _ _ _ _ (@snd_call _ _ _ _ _ _ _ _ _ _ _ _ _ _ _ (@s33 w mg mb means) (by law_fin) (by law_fin) (gf_names_of _) (by law_fin) (by law_fin) rfl (@snds_cons _ _ _ _ _ _ _ _ _ (@snd_loc _ _ _ _ _ _ _ (i := 0) rfl rfl (by law_fin)) (@snds_nil _ _ _ _ _) (by law_fin)) (by law_fin) (fun _ _ => rfl)) (@snds_nil _ _ _ _ _) (by law_fin)) (by law_fin)) (by law_fin) (fun _ _ => rfl)))
      (@sndb_nil _ _ _ _ _)) (@sndb_nil _ _ _ _ _))
      (@sndb_cons _ _ _ _ _ _ _ _ _ (@snds_if _ _ _ _ _ _ _ _ _ _ _ _ (@sndT_or _ _ _ _ _ _ _ _ _ _ _ (@sndT_cmp _ _ _ _ _ _ _ _ _ _ _ _ cmp_eq (@snd_attr _ _ _ _ _ _ _ _ _ _ (@snd_loc _ _ _ _ _ _ _ (i := 0) rfl rfl (by law_fin)) n_kind (by law_fin)) (@snd_str _ _ _ _ _ _ _ _ _ (by law_fin)) (by law_fin)) (@sndT_or _ _ _ _ _ _ _ _ _ _ _ (@sndT_cmp _ _ _ _ _ _ _ _ _ _ _ _ cmp_eq (@snd_attr _ _ _ _ _ _ _ _ _ _ (@snd_loc _ _ _ _ _ _ _ (i := 0) rfl rfl (by law_fin)) n_kind (by law_fin)) (@snd_str _ _ _ _ _ _ _ _ _ (by law_fin)) (by law_fin)) (@sndT_or1 _ _ _ _ _ _ _ _ (@sndT_cmp _ _ _ _ _ _ _ _ _ _ _ _ cmp_eq (@snd_loc _ _ _ _ _ _ _ (i := 1) rfl rfl (by law_fin)) (@snd_str _ _ _ _ _ _ _ _ _ (by law_fin)) (by law_fin))))) (@sndb_cons _ _ _ _ _ _ _ _ _ (@snds_ret _ _ _ _ _ _ _ _ (@snd_call _ _ _ _ _ _ _ _ _ _ _ _ _ _ _ (@mkn_vec _ _ _ _) (by law_fin) (by law_fin) (gf_Vector _) (by law_fin) (by law_fin) rfl (@snds_cons _ _ _ _ _ _ _ _ _ (@snd_loc _ _ _ _ _ _ _ (i := 1) rfl rfl (by law_fin)) (@snds_cons _ _ _ _ _ _ _ _ _ (@snd_list _ _ _ _ _ _ _ _ (@snds_cons _ _ _ _ _ _ _ _ _ (@snd_call _ _ _ _ _ _ _ _ _ _ _ _ _ _ _ (@s433 w mg mb means) (by law_fin) (by law_fin) (gf_share _) (by law_fin) (by law_fin) rfl (@snds_cons _ _ _ _ _ _ _ _ _ (@snd_loc _ _ _ _ _ _ _ (i := 0) rfl rfl (by law_fin)) (@snds_nil _ _ _ _ _) (by law_fin)) (by law_fin) (fun _ _ => rfl)) (@snds_nil _ _ _ _ _) (by law_fin))) (@snds_nil _ _ _ _ _) (by law_fin)) (by law_fin)) (by law_fin) (fun _ _ => rfl)))
      (@sndb_nil _ _ _ _ _)) (@sndb_nil _ _ _ _ _))
      (@sndb_cons _ _ _ _ _ _ _ _ _ (@snds_raise _ _ _ _ _ _ _ _ rfl (@snd_call _ _ _ _ _ _ _ _ _ _ _ _ _ _ _ (@s517 w mg mb means) (by law_fin) (by law_fin) (gf_refuse_type _) (by law_fin) (by law_fin) rfl (@snds_cons _ _ _ _ _ _ _ _ _ (@snd_loc _ _ _ _ _ _ _ (i := 0) rfl rfl (by law_fin)) (@snds_cons _ _ _ _ _ _ _ _ _ (@snd_loc _ _ _ _ _ _ _ (i := 1) rfl rfl (by law_fin)) (@snds_nil _ _ _ _ _) (by law_fin)) (by law_fin)) (by law_fin) (fun _ _ => rfl)))
      (@sndb_nil _ _ _ _ _)))) (@sndb_nil _ _ _ _ _))
      (@sndb_cons _ _ _ _ _ _ _ _ _ (@snds_if _ _ _ _ _ _ _ _ _ _ _ _ (@sndT_and _ _ _ _ _ _ _ _ _ _ _ (@sndT_cmp _ _ _ _ _ _ _ _ _ _ _ _ cmp_eq (@snd_attr _ _ _ _ _ _ _ _ _ _ (@snd_loc _ _ _ _ _ _ _ (i := 0) rfl rfl (by law_fin)) n_kind (by law_fin)) (@snd_str _ _ _ _ _ _ _ _ _ (by law_fin)) (by law_fin)) (@sndT_and1 _ _ _ _ _ _ _ _ (@sndT_cmp _ _ _ _ _ _ _ _ _ _ _ _ cmp_eq (@snd_loc _ _ _ _ _ _ _ (i := 1) rfl rfl (by law_fin)) (@snd_str _ _ _ _ _ _ _ _ _ (by law_fin)) (by law_fin)))) (@sndb_cons _ _ _ _ _ _ _ _ _ (@snds_ret _ _ _ _ _ _ _ _ (@snd_call _ _ _ _ _ _ _ _ _ _ _ _ _ _ _ (@mkn_vec _ _ _ _) (by law_fin) (by law_fin) (gf_Vector _) (by law_fin) (by law_fin) rfl (@snds_cons _ _ _ _ _ _ _ _ _ (@snd_loc _ _ _ _ _ _ _ (i := 1) rfl rfl (by law_fin)) (@snds_cons _ _ _ _ _ _ _ _ _ (@snd_list _ _ _ _ _ _ _ _ (@snds_cons _ _ _ _ _ _ _ _ _ (@snd_attr _ _ _ _ _ _ _ _ _ _ (@snd_loc _ _ _ _ _ _ _ (i := 0) rfl rfl (by law_fin)) n_name (by law_fin)) (@snds_nil _ _ _ _ _) (by law_fin))) (@snds_nil _ _ _ _ _) (by law_fin)) (by law_fin)) (by law_fin) (fun _ _ => rfl)))
      (@sndb_nil _ _ _ _ _)) (@sndb_nil _ _ _ _ _))
      (@sndb_cons _ _ _ _ _ _ _ _ _ (@snds_if _ _ _ _ _ _ _ _ _ _ _ _ (@sndT_and _ _ _ _ _ _ _ _ _ _ _ (@sndT_cmp _ _ _ _ _ _ _ _ _ _ _ _ cmp_eq (@snd_attr _ _ _ _ _ _ _ _ _ _ (@snd_loc _ _ _ _ _ _ _ (i := 0) rfl rfl (by law_fin)) n_kind (by law_fin)) (@snd_str _ _ _ _ _ _ _ _ _ (by law_fin)) (by law_fin)) (@sndT_and1 _ _ _ _ _ _ _ _ (@sndT_cmp _ _ _ _ _ _ _ _ _ _ _ _ cmp_eq (@snd_loc _ _ _ _ _ _ _ (i := 1) rfl rfl (by law_fin)) (@snd_str _ _ _ _ _ _ _ _ _ (by law_fin)) (by law_fin)))) (@sndb_cons _ _ _ _ _ _ _ _ _ (@snds_ret _ _ _ _ _ _ _ _ (@snd_call _ _ _ _ _ _ _ _ _ _ _ _ _ _ _ (@mkn_vec _ _ _ _) (by law_fin) (by law_fin) (gf_Vector _) (by law_fin) (by law_fin) rfl (@snds_cons _ _ _ _ _ _ _ _ _ (@snd_loc _ _ _ _ _ _ _ (i := 1) rfl rfl (by law_fin)) (@snds_cons _ _ _ _ _ _ _ _ _ (@snd_compE _ _ _ _ _ _ _ _ _ _ _ (c := ⟨_, _, (fun L => [(Str.ofString "kind", L + 1)])⟩) (by exact ⟨rfl, rfl, rfl, by decide +kernel, by decide +kernel, by decide +kernel, fun _ => rfl, fun _ _ => rfl⟩) (@snd_call _ _ _ _ _ _ _ _ _ _ _ _ _ _ _ (@s510 w mg mb means) (by law_fin) (by law_fin) (gf_list_item_as _) (by law_fin) (by law_fin) rfl (@snds_cons _ _ _ _ _ _ _ _ _ (@snd_str _ _ _ _ _ _ _ _ _ (by law_fin)) (@snds_cons _ _ _ _ _ _ _ _ _ (@snd_cv _ _ _ _ _ _ _ _ rfl rfl (by law_fin) (by law_fin)) (@snds_cons _ _ _ _ _ _ _ _ _ (@snd_locC _ _ _ _ _ _ _ _ (i := 1) rfl rfl (by law_fin) (by law_fin) (by law_fin) (fun _ => rfl)) (@snds_cons _ _ _ _ _ _ _ _ _ (@snd_list _ _ _ _ _ _ _ _ (@snds_nil _ _ _ _ _)) (@snds_nil _ _ _ _ _) (by law_fin)) (by law_fin)) (by law_fin)) (by law_fin)) (by law_fin) (fun _ _ => rfl)) (@snd_attr _ _ _ _ _ _ _ _ _ _ (@snd_loc _ _ _ _ _ _ _ (i := 0) rfl rfl (by law_fin)) n_items (by law_fin))) (@snds_nil _ _ _ _ _) (by law_fin)) (by law_fin)) (by law_fin) (fun _ _ => rfl)))
      (@sndb_nil _ _ _ _ _)) (@sndb_nil _ _ _ _ _))
      (@sndb_cons _ _ _ _ _ _ _ _ _ (@snds_raise _ _ _ _ _ _ _ _ rfl (@snd_call _ _ _ _ _ _ _ _ _ _ _ _ _ _ _ (@s517 w mg mb means) (by law_fin) (by law_fin) (gf_refuse_type _) (by law_fin) (by law_fin) rfl (@snds_cons _ _ _ _ _ _ _ _ _ (@snd_loc _ _ _ _ _ _ _ (i := 0) rfl rfl (by law_fin)) (@snds_cons _ _ _ _ _ _ _ _ _ (@snd_loc _ _ _ _ _ _ _ (i := 1) rfl rfl (by law_fin)) (@snds_nil _ _ _ _ _) (by law_fin)) (by law_fin)) (by law_fin) (fun _ _ => rfl)))
      (@sndb_nil _ _ _ _ _))))))

theorem s534 : SndF w mg mb means 534 3 7 (callF 4 f534) := by
  refine fn_snd (lev := 7) (ns := [Str.ofString "v", Str.ofString "kind", Str.ofString "notes", Str.ofString "items"]) ?hb ?hns (by k_is) (by k_is) ?hbind ?hkind ?hnd ?hap ?hnp ?hco ?hgen ?hk
  case hns => decide +kernel
  case hbind => exact fun s => bind3 fun a0 a1 a2 => BindsTo.of_eq rfl
  case hkind => exact kinds_of (by decide +kernel)
  case hnd => decide +kernel
  case hap => (intro L; first | exact List.Pairwise.nil | (simp [cellsFrom]; done) | (simp [cellsFrom]; omega))
  case hnp => decide
  case hco => rfl
  case hgen => rfl
  case hk => rfl
  case hb =>
    exact (@sndb_cons _ _ _ _ _ _ _ _ _ (@snds_if _ _ _ _ _ _ _ _ _ _ _ _ (@sndT_not _ _ _ _ _ _ _ _ (@sndT_plain _ _ _ _ _ _ _ (@snd_isI _ _ _ _ _ _ _ _ _ _ _ _ (gb_isinstance _) (gf_Vector _) (by law_fin) (by law_fin) (by law_fin) (by law_fin) (@snd_loc _ _ _ _ _ _ _ (i := 0) rfl rfl (by law_fin)) (fun _ => rfl) (fun _ => rfl)) (fun _ _ => rfl))) (@sndb_cons _ _ _ _ _ _ _ _ _ (@snds_ret _ _ _ _ _ _ _ _ (@snd_call _ _ _ _ _ _ _ _ _ _ _ _ _ _ _ (@s522 w mg mb means) (by law_fin) (by law_fin) (gf_as_vector_kind _) (by law_fin) (by law_fin) rfl (@snds_cons _ _ _ _ _ _ _ _ _ (@snd_loc _ _ _ _ _ _ _ (i := 0) rfl rfl (by law_fin)) (@snds_cons _ _ _ _ _ _ _ _ _ (@snd_loc _ _ _ _ _ _ _ (i := 1) rfl rfl (by law_fin)) (@snds_nil _ _ _ _ _) (by law_fin)) (by law_fin)) (by law_fin) (fun _ _ => rfl)))
      (@sndb_nil _ _ _ _ _)) (@sndb_nil _ _ _ _ _))
      (@sndb_cons _ _ _ _ _ _ _ _ _ (@snds_asg _ _ _ _ _ _ _ _ _ _ _ rfl rfl (@snd_attr _ _ _ _ _ _ _ _ _ _ (@snd_loc _ _ _ _ _ _ _ (i := 0) rfl rfl (by law_fin)) n_items (by law_fin)) (.inl (by law_fin)) (fun _ => rfl))
      (@sndb_cons _ _ _ _ _ _ _ _ _ (@snds_if _ _ _ _ _ _ _ _ _ _ _ _ (@sndT_cmp _ _ _ _ _ _ _ _ _ _ _ _ cmp_ne (@snd_attr _ _ _ _ _ _ _ _ _ _ (@snd_loc _ _ _ _ _ _ _ (i := 0) rfl rfl (by law_fin)) n_kind (by law_fin)) (@snd_loc _ _ _ _ _ _ _ (i := 1) rfl rfl (by law_fin)) (by law_fin)) (@sndb_cons _ _ _ _ _ _ _ _ _ (@snds_asgC _ _ _ _ _ _ _ _ _ _ _ _ _ _ _ (c := ⟨_, _, (fun L => [(Str.ofString "v", L + 1), (Str.ofString "notes", L + 3), (Str.ofString "kind", L + 2)])⟩) (by exact ⟨rfl, rfl, rfl, by decide +kernel, by decide +kernel, by decide +kernel, fun _ => rfl, fun _ _ => rfl⟩) (@snd_call _ _ _ _ _ _ _ _ _ _ _ _ _ _ _ (@s496 w mg mb means) (by law_fin) (by law_fin) (gf_item_as _) (by law_fin) (by law_fin) rfl (@snds_cons _ _ _ _ _ _ _ _ _ (@snd_attr _ _ _ _ _ _ _ _ _ _ (@snd_locC _ _ _ _ _ _ _ _ (i := 0) rfl rfl (by law_fin) (by law_fin) (by law_fin) (fun _ => rfl)) n_kind (by law_fin)) (@snds_cons _ _ _ _ _ _ _ _ _ (@snd_cv _ _ _ _ _ _ _ _ rfl rfl (by law_fin) (by law_fin)) (@snds_cons _ _ _ _ _ _ _ _ _ (@snd_locC _ _ _ _ _ _ _ _ (i := 1) rfl rfl (by law_fin) (by law_fin) (by law_fin) (fun _ => rfl)) (@snds_cons _ _ _ _ _ _ _ _ _ (@snd_locC _ _ _ _ _ _ _ _ (i := 2) rfl rfl (by law_fin) (by law_fin) (by law_fin) (fun _ => rfl)) (@snds_nil _ _ _ _ _) (by law_fin)) (by law_fin)) (by law_fin)) (by law_fin)) (by law_fin) (fun _ _ => rfl)) (@snd_attr _ _ _ _ _ _ _ _ _ _ (@snd_loc _ _ _ _ _ _ _ (i := 0) rfl rfl (by law_fin)) n_items (by law_fin)) rfl (.inl (by law_fin)) (fun _ => rfl))
      (@sndb_nil _ _ _ _ _)) (@sndb_nil _ _ _ _ _))
      (@sndb_cons _ _ _ _ _ _ _ _ _ (@snds_ret _ _ _ _ _ _ _ _ (@snd_call _ _ _ _ _ _ _ _ _ _ _ _ _ _ _ (@s529 w mg mb means) (by law_fin) (by law_fin) (gf_with_names _) (by law_fin) (by law_fin) rfl (@snds_cons _ _ _ _ _ _ _ _ _ (@snd_call _ _ _ _ _ _ _ _ _ _ _ _ _ _ _ (@mkn_vec _ _ _ _) (by law_fin) (by law_fin) (gf_Vector _) (by law_fin) (by law_fin) rfl (@snds_cons _ _ _ _ _ _ _ _ _ (@snd_loc _ _ _ _ _ _ _ (i := 1) rfl rfl (by law_fin)) (@snds_cons _ _ _ _ _ _ _ _ _ (@snd_bi _ _ _ _ _ _ _ _ _ _ _ _ bi_lst rfl (gb_list _) (.inr ⟨_, rfl⟩) (by law_fin) (by law_fin) (@snd_loc _ _ _ _ _ _ _ (i := 3) rfl rfl (by law_fin)) (fun _ => rfl)) (@snds_nil _ _ _ _ _) (by law_fin)) (by law_fin)) (by law_fin) (fun _ _ => rfl)) (@snds_cons _ _ _ _ _ _ _ _ _ (@snd_call _ _ _ _ _ _ _ _ _ _ _ _ _ _ _ (@s33 w mg mb means) (by law_fin) (by law_fin) (gf_names_of _) (by law_fin) (by law_fin) rfl (@snds_cons _ _ _ _ _ _ _ _ _ (@snd_loc _ _ _ _ _ _ _ (i := 0) rfl rfl (by law_fin)) (@snds_nil _ _ _ _ _) (by law_fin)) (by law_fin) (fun _ _ => rfl)) (@snds_nil _ _ _ _ _) (by law_fin)) (by law_fin)) (by law_fin) (fun _ _ => rfl)))
      (@sndb_nil _ _ _ _ _)))))

theorem s541 : SndF w mg mb means 541 1 8 (callF 1 f541) := by
  refine fn_snd (lev := 8) (ns := [Str.ofString "v"]) ?hb ?hns (by k_is) (by k_is) ?hbind ?hkind ?hnd ?hap ?hnp ?hco ?hgen ?hk
  case hns => decide +kernel
  case hbind => exact fun s => bind1 fun a0 => BindsTo.of_eq rfl
  case hkind => exact kinds_of (by decide +kernel)
  case hnd => decide +kernel
  case hap => (intro L; first | exact List.Pairwise.nil | (simp [cellsFrom]; done) | (simp [cellsFrom]; omega))
  case hnp => decide
  case hco => rfl
  case hgen => rfl
  case hk => rfl
  case hb =>
    exact (@sndb_cons _ _ _ _ _ _ _ _ _ (@snds_ret _ _ _ _ _ _ _ _ (@snd_call _ _ _ _ _ _ _ _ _ _ _ _ _ _ _ (@s534 w mg mb means) (by law_fin) (by law_fin) (gf_as_kind _) (by law_fin) (by law_fin) rfl (@snds_cons _ _ _ _ _ _ _ _ _ (@snd_loc _ _ _ _ _ _ _ (i := 0) rfl rfl (by law_fin)) (@snds_cons _ _ _ _ _ _ _ _ _ (@snd_str _ _ _ _ _ _ _ _ _ (by law_fin)) (@snds_cons _ _ _ _ _ _ _ _ _ (@snd_list _ _ _ _ _ _ _ _ (@snds_nil _ _ _ _ _)) (@snds_nil _ _ _ _ _) (by law_fin)) (by law_fin)) (by law_fin)) (by law_fin) (fun _ _ => rfl)))
      (@sndb_nil _ _ _ _ _))

end
noncomputable def f548 : Sb := (blk [sAsg 1 (xFn 2 f419 [(xLoc 0)]), sIff (xCmp .eq (xLoc 1) (xInt 0)) (blk [sRaise (xCls 75 [(xStr [97, 114, 103, 117, 109, 101, 110, 116, 32, 105, 115, 32, 111, 102, 32, 108, 101, 110, 103, 116, 104, 32, 122, 101, 114, 111])])]) (blk []), sIff (xCmp .gt (xLoc 1) (xInt 1)) (blk [sRaise (xCls 75 [(xStr [116, 104, 101, 32, 99, 111, 110, 100, 105, 116, 105, 111, 110, 32, 104, 97, 115, 32, 108, 101, 110, 103, 116, 104, 32, 62, 32, 49])])]) (blk []), sAsg 2 xNone, sIff (xFn 1 f426 [(xLoc 0)]) (blk [sAsg 2 (xFn 2 f468 [(xAttr (xLoc 0) 0), (xSub (xAttr (xLoc 0) 1) (xInt 0))])]) (blk []), sIff (xCmp .is (xLoc 2) xNone) (blk [sIff (xCmp .eq (xAttr (xLoc 0) 0) (xStr [108, 111, 103, 105, 99, 97, 108])) (blk [sRaise (xCls 75 [(xStr [109, 105, 115, 115, 105, 110, 103, 32, 118, 97, 108, 117, 101, 32, 119, 104, 101, 114, 101, 32, 84, 82, 85, 69, 47, 70, 65, 76, 83, 69, 32, 110, 101, 101, 100, 101, 100])])]) (blk []), sRaise (xCls 75 [(xStr [97, 114, 103, 117, 109, 101, 110, 116, 32, 105, 115, 32, 110, 111, 116, 32, 105, 110, 116, 101, 114, 112, 114, 101, 116, 97, 98, 108, 101, 32, 97, 115, 32, 108, 111, 103, 105, 99, 97, 108])])]) (blk []), sRet (xCmp .eq (xLoc 2) (xInt 1))])
noncomputable def f620 : Sb := (blk [sIff (xCmp .eq (xAttr (xLoc 0) 0) (xStr [78, 85, 76, 76])) (blk [sRet (xList [])]) (blk []), sIff (xCmp .isin (xAttr (xLoc 0) 0) (xTup [(xStr [108, 105, 115, 116]), (xStr [101, 120, 112, 114, 101, 115, 115, 105, 111, 110]), (xStr [108, 97, 110, 103, 117, 97, 103, 101])])) (blk [sRet (xLst (xAttr (xLoc 0) 1))]) (blk []), sIff (xIsI (xLoc 0)) (blk [sRet (xComp (xCls 314 [(xAttr (xLoc 0) 0), (xList [xCv])]) (xAttr (xLoc 0) 1))]) (blk []), sRet (xList [(xLoc 0)])])
noncomputable def f627 : Sb := (blk [sAsg 2 (xFn 1 f620 [(xLoc 1)]), sIff (xOr [(xCmp .ne (xAttr (xLoc 0) 0) (xStr [108, 105, 115, 116])), (xCmp .ne (xLen (xAttr (xLoc 0) 1)) (xLen (xLoc 2)))]) (blk [sRet (xBool false)]) (blk []), sForR 3 (xLen (xLoc 2)) (blk [sIff (xNot (xFn 2 f610 [(xSub (xAttr (xLoc 0) 1) (xLoc 3)), (xSub (xLoc 2) (xLoc 3))])) (blk [sRet (xBool false)]) (blk [])]), sAsg 4 (xFn 2 f615 [(xLoc 1)]), sIff (xCmp .is (xLoc 4) xNone) (blk [sRet (xCmp .is (xAttr (xLoc 0) 2) xNone)]) (blk []), sRet (xAnd [(xCmp .eq (xLst (xAttr (xLoc 0) 2)) (xList [(xStr [110, 97, 109, 101, 115])])), (xCmp .eq (xAttr (xSubK (xAttr (xLoc 0) 2) (xStr [110, 97, 109, 101, 115])) 1) (xLoc 4))])])
noncomputable def f634 : Sb := (blk [sTryx (blk [sAsg 2 (xFn 2 f522 [(xLoc 0), (xLoc 1)])]) 3 (blk [sRet (xTup [(xMsg (xLoc 3)), xNone])]), sRet (xTup [(xStr []), (xLoc 2)])])
noncomputable def f648 : Sb := (blk [sAsg 1 (xAdd (xAdd (xStr [99, 97, 110, 110, 111, 116, 32, 99, 111, 101, 114, 99, 101, 32, 116, 121, 112, 101, 32, 39]) (xAttr (xLoc 0) 0)) (xStr [39, 32, 116, 111, 32, 118, 101, 99, 116, 111, 114, 32, 111, 102, 32, 116, 121, 112, 101, 32, 39])), sAsg2 2 3 (xFn 4 f634 [(xLoc 0), (xStr [100, 111, 117, 98, 108, 101])]), sIff (xCmp .eq (xAttr (xLoc 0) 0) (xStr [78, 85, 76, 76])) (blk [sRet (xAnd [(xCmp .eq (xLoc 2) (xStr [])), (xCmp .eq (xAttr (xLoc 3) 0) (xStr [100, 111, 117, 98, 108, 101])), (xCmp .eq (xAttr (xLoc 3) 1) (xList []))])]) (blk []), sIff (xCmp .ne (xLoc 2) (xAdd (xLoc 1) (xStr [100, 111, 117, 98, 108, 101, 39]))) (blk [sRet (xBool false)]) (blk []), sAsg2 2 3 (xFn 4 f634 [(xLoc 0), (xStr [101, 120, 112, 114, 101, 115, 115, 105, 111, 110])]), sIff (xOr [(xCmp .eq (xAttr (xLoc 0) 0) (xStr [115, 121, 109, 98, 111, 108])), (xCmp .eq (xAttr (xLoc 0) 0) (xStr [108, 97, 110, 103, 117, 97, 103, 101]))]) (blk [sIff (xOr [(xCmp .ne (xLoc 2) (xStr [])), (xCmp .ne (xAttr (xLoc 3) 0) (xStr [101, 120, 112, 114, 101, 115, 115, 105, 111, 110])), (xCmp .ne (xLen (xAttr (xLoc 3) 1)) (xInt 1)), (xNot (xFn 2 f610 [(xSub (xAttr (xLoc 3) 1) (xInt 0)), (xLoc 0)]))]) (blk [sRet (xBool false)]) (blk [])]) (blk [sIff (xCmp .ne (xLoc 2) (xAdd (xLoc 1) (xStr [101, 120, 112, 114, 101, 115, 115, 105, 111, 110, 39]))) (blk [sRet (xBool false)]) (blk [])]), sAsg2 2 3 (xFn 4 f634 [(xLoc 0), (xStr [99, 104, 97, 114, 97, 99, 116, 101, 114])]), sIff (xCmp .eq (xAttr (xLoc 0) 0) (xStr [115, 121, 109, 98, 111, 108])) (blk [sRet (xAnd [(xCmp .eq (xLoc 2) (xStr [])), (xCmp .eq (xAttr (xLoc 3) 0) (xStr [99, 104, 97, 114, 97, 99, 116, 101, 114])), (xCmp .eq (xAttr (xLoc 3) 1) (xList [(xAttr (xLoc 0) 5)]))])]) (blk []), sIff (xCmp .ne (xAttr (xLoc 0) 0) (xStr [108, 97, 110, 103, 117, 97, 103, 101])) (blk [sRet (xCmp .eq (xLoc 2) (xAdd (xLoc 1) (xStr [99, 104, 97, 114, 97, 99, 116, 101, 114, 39])))]) (blk []), sAsg 4 (xFn 3 f641 [(xLoc 0)]), sIff (xCmp .is (xLoc 4) xNone) (blk [sRet (xCmp .eq (xLoc 2) (xStr [39, 108, 97, 110, 103, 117, 97, 103, 101, 39, 32, 111, 98, 106, 101, 99, 116, 32, 99, 97, 110, 110, 111, 116, 32, 98, 101, 32, 99, 111, 101, 114, 99, 101, 100, 32, 116, 111, 32, 116, 121, 112, 101, 32, 39, 99, 104, 97, 114, 97, 99, 116, 101, 114, 39]))]) (blk []), sRet (xAnd [(xCmp .eq (xLoc 2) (xStr [])), (xCmp .eq (xAttr (xLoc 3) 0) (xStr [99, 104, 97, 114, 97, 99, 116, 101, 114])), (xCmp .eq (xAttr (xLoc 3) 1) (xLoc 4))])])
noncomputable def f582 : Sb := (blk [sAsg 2 (xTake [(xLoc 0), (xInt 9)]), sIff (xCmp .lt (xLoc 2) (xInt 3)) (blk [sRet (xFn 2 f577 [(xLoc 0), (xFn 4 f572 [(xLoc 0), (xLoc 1), (xSub (xList [(xInt 1), (xInt 1), (xInt 0), (xInt 2), (xInt 3)]) (xTake [(xLoc 0), (xInt 5)]))])])]) (blk []), sIff (xOr [(xCmp .eq (xLoc 2) (xInt 3)), (xCmp .eq (xLoc 2) (xInt 4))]) (blk [sAsg 3 (xCompR (xFn 3 f589 [(xLoc 0), (xLoc 1)]) (xTake [(xLoc 0), (xInt 3)])), sRet (xFn 2 f577 [(xLoc 0), (xCls 314 [(xIfe (xCmp .eq (xLoc 2) (xInt 3)) (xStr [108, 105, 115, 116]) (xStr [101, 120, 112, 114, 101, 115, 115, 105, 111, 110])), (xLoc 3)])])]) (blk []), sIff (xCmp .eq (xLoc 2) (xInt 5)) (blk [sRet (xCls 285 [])]) (blk []), sIff (xCmp .eq (xLoc 2) (xInt 6)) (blk [sAsg 3 (xAdd (xList [(xCls 335 [(xStr [102])])]) (xCompR (xFn 3 f589 [(xLoc 0), (xLoc 1)]) (xTake [(xLoc 0), (xInt 3)]))), sRet (xCls 357 [(xLoc 3), (xAdd (xList [xNone]) (xComp (xSub (xList [xNone, (xStr [97]), (xStr [98])]) (xTake [(xLoc 0), (xInt 3)])) (xSlLo (xLoc 3) (xInt 1))))])]) (blk []), sIff (xCmp .eq (xLoc 2) (xInt 7)) (blk [sAsg 4 (xCls 401 [(xAdd (xInt 3) (xTake [(xLoc 0), (xInt 5)])), xNone]), sForL 5 (xSlHi (xList [(xStr [120]), (xStr [121])]) (xTake [(xLoc 0), (xInt 3)])) (blk [sAsgK (xAttr (xLoc 4) 13) (xLoc 5) (xCls 285 [])]), sRet (xLoc 4)]) (blk []), sRet (xFn 3 f589 [(xLoc 0), (xLoc 1)])])
section
variable (w : World) (mg mb : Str → Option Value) (means : ExcName → Option Value)
theorem s548 : SndF w mg mb means 548 1 4 (callF 3 f548) := by
  refine fn_snd (lev := 4) (ns := [Str.ofString "v", Str.ofString "count", Str.ofString "found"]) ?hb ?hns (by k_is) (by k_is) ?hbind ?hkind ?hnd ?hap ?hnp ?hco ?hgen ?hk
  case hns => decide +kernel
  case hbind => exact fun s => bind1 fun a0 => BindsTo.of_eq rfl
  case hkind => exact kinds_of (by decide +kernel)
  case hnd => decide +kernel
  case hap => (intro L; first | exact List.Pairwise.nil | (simp [cellsFrom]; done) | (simp [cellsFrom]; omega))
  case hnp => decide
  case hco => rfl
  case hgen => rfl
  case hk => rfl
  case hb =>
    exact (@sndb_cons _ _ _ _ _ _ _ _ _ (@snds_asg _ _ _ _ _ _ _ _ _ _ _ rfl rfl (@snd_call _ _ _ _ _ _ _ _ _ _ _ _ _ _ _ (@s419 w mg mb means) (by law_fin) (by law_fin) (gf_length _) (by law_fin) (by law_fin) rfl (@snds_cons _ _ _ _ _ _ _ _ _ (@snd_loc _ _ _ _ _ _ _ (i := 0) rfl rfl (by law_fin)) (@snds_nil _ _ _ _ _) (by law_fin)) (by law_fin) (fun _ _ => rfl)) (.inl (by law_fin)) (fun _ => rfl))
      (@sndb_cons _ _ _ _ _ _ _ _ _ (@snds_if _ _ _ _ _ _ _ _ _ _ _ _ (@sndT_cmp _ _ _ _ _ _ _ _ _ _ _ _ cmp_eq (@snd_loc _ _ _ _ _ _ _ (i := 1) rfl rfl (by law_fin)) (@snd_int _ _ _ _ _ _ _ _) (by law_fin)) (@sndb_cons _ _ _ _ _ _ _ _ _ (@snds_raise _ _ _ _ _ _ _ _ rfl (@snd_call _ _ _ _ _ _ _ _ _ _ _ _ _ _ _ (@mkn_exc _ _ _ _) (by law_fin) (by law_fin) (gf_Refusal _) (by law_fin) (by law_fin) rfl (@snds_cons _ _ _ _ _ _ _ _ _ (@snd_str _ _ _ _ _ _ _ _ _ (by law_fin)) (@snds_nil _ _ _ _ _) (by law_fin)) (by law_fin) (fun _ _ => rfl)))
      (@sndb_nil _ _ _ _ _)) (@sndb_nil _ _ _ _ _))
      (@sndb_cons _ _ _ _ _ _ _ _ _ (@snds_if _ _ _ _ _ _ _ _ _ _ _ _ (@sndT_cmp _ _ _ _ _ _ _ _ _ _ _ _ cmp_gt (@snd_loc _ _ _ _ _ _ _ (i := 1) rfl rfl (by law_fin)) (@snd_int _ _ _ _ _ _ _ _) (by law_fin)) (@sndb_cons _ _ _ _ _ _ _ _ _ (@snds_raise _ _ _ _ _ _ _ _ rfl (@snd_call _ _ _ _ _ _ _ _ _ _ _ _ _ _ _ (@mkn_exc _ _ _ _) (by law_fin) (by law_fin) (gf_Refusal _) (by law_fin) (by law_fin) rfl (@snds_cons _ _ _ _ _ _ _ _ _ (@snd_str _ _ _ _ _ _ _ _ _ (by law_fin)) (@snds_nil _ _ _ _ _) (by law_fin)) (by law_fin) (fun _ _ => rfl)))
      (@sndb_nil _ _ _ _ _)) (@sndb_nil _ _ _ _ _))
      (@sndb_cons _ _ _ _ _ _ _ _ _ (@snds_asg _ _ _ _ _ _ _ _ _ _ _ rfl rfl (@snd_none _ _ _ _ _ _ _) (.inl (by law_fin)) (fun _ => rfl))
      (@sndb_cons _ _ _ _ _ _ _ _ _ (@snds_if _ _ _ _ _ _ _ _ _ _ _ _ (@sndT_plain _ _ _ _ _ _ _ (@snd_call _ _ _ _ _ _ _ _ _ _ _ _ _ _ _ (@s426 w mg mb means) (by law_fin) (by law_fin) (gf_is_atomic _) (by law_fin) (by law_fin) rfl (@snds_cons _ _ _ _ _ _ _ _ _ (@snd_loc _ _ _ _ _ _ _ (i := 0) rfl rfl (by law_fin)) (@snds_nil _ _ _ _ _) (by law_fin)) (by law_fin) (fun _ _ => rfl)) (fun _ _ => rfl)) (@sndb_cons _ _ _ _ _ _ _ _ _ (@snds_asg _ _ _ _ _ _ _ _ _ _ _ rfl rfl (@snd_call _ _ _ _ _ _ _ _ _ _ _ _ _ _ _ (@s468 w mg mb means) (by law_fin) (by law_fin) (gf_to_logical _) (by law_fin) (by law_fin) rfl (@snds_cons _ _ _ _ _ _ _ _ _ (@snd_attr _ _ _ _ _ _ _ _ _ _ (@snd_loc _ _ _ _ _ _ _ (i := 0) rfl rfl (by law_fin)) n_kind (by law_fin)) (@snds_cons _ _ _ _ _ _ _ _ _ (@snd_sub _ _ _ _ _ _ _ _ _ _ (@snd_attr _ _ _ _ _ _ _ _ _ _ (@snd_loc _ _ _ _ _ _ _ (i := 0) rfl rfl (by law_fin)) n_items (by law_fin)) (@snd_int _ _ _ _ _ _ _ _) (fun _ _ _ => rfl)) (@snds_nil _ _ _ _ _) (by law_fin)) (by law_fin)) (by law_fin) (fun _ _ => rfl)) (.inl (by law_fin)) (fun _ => rfl))
      (@sndb_nil _ _ _ _ _)) (@sndb_nil _ _ _ _ _))
      (@sndb_cons _ _ _ _ _ _ _ _ _ (@snds_if _ _ _ _ _ _ _ _ _ _ _ _ (@sndT_cmp _ _ _ _ _ _ _ _ _ _ _ _ cmp_is (@snd_loc _ _ _ _ _ _ _ (i := 2) rfl rfl (by law_fin)) (@snd_none _ _ _ _ _ _ _) (by law_fin)) (@sndb_cons _ _ _ _ _ _ _ _ _ (@snds_if _ _ _ _ _ _ _ _ _ _ _ _ (@sndT_cmp _ _ _ _ _ _ _ _ _ _ _ _ cmp_eq (@snd_attr _ _ _ _ _ _ _ _ _ _ (@snd_loc _ _ _ _ _ _ _ (i := 0) rfl rfl (by law_fin)) n_kind (by law_fin)) (@snd_str _ _ _ _ _ _ _ _ _ (by law_fin)) (by law_fin)) (@sndb_cons _ _ _ _ _ _ _ _ _ (@snds_raise _ _ _ _ _ _ _ _ rfl (@snd_call _ _ _ _ _ _ _ _ _ _ _ _ _ _ _ (@mkn_exc _ _ _ _) (by law_fin) (by law_fin) (gf_Refusal _) (by law_fin) (by law_fin) rfl (@snds_cons _ _ _ _ _ _ _ _ _ (@snd_str _ _ _ _ _ _ _ _ _ (by law_fin)) (@snds_nil _ _ _ _ _) (by law_fin)) (by law_fin) (fun _ _ => rfl)))
      (@sndb_nil _ _ _ _ _)) (@sndb_nil _ _ _ _ _))
      (@sndb_cons _ _ _ _ _ _ _ _ _ (@snds_raise _ _ _ _ _ _ _ _ rfl (@snd_call _ _ _ _ _ _ _ _ _ _ _ _ _ _ _ (@mkn_exc _ _ _ _) (by law_fin) (by law_fin) (gf_Refusal _) (by law_fin) (by law_fin) rfl (@snds_cons _ _ _ _ _ _ _ _ _ (@snd_str _ _ _ _ _ _ _ _ _ (by law_fin)) (@snds_nil _ _ _ _ _) (by law_fin)) (by law_fin) (fun _ _ => rfl)))
      (@sndb_nil _ _ _ _ _))) (@sndb_nil _ _ _ _ _))
      (@sndb_cons _ _ _ _ _ _ _ _ _ (@snds_ret _ _ _ _ _ _ _ _ (@snd_cmp _ _ _ _ _ _ _ _ _ _ _ _ cmp_eq (@snd_loc _ _ _ _ _ _ _ (i := 2) rfl rfl (by law_fin)) (@snd_int _ _ _ _ _ _ _ _) (by law_fin)))
      (@sndb_nil _ _ _ _ _))))))))

theorem s620 : SndF w mg mb means 620 1 4 (callF 1 f620) := by
  refine fn_snd (lev := 4) (ns := [Str.ofString "v"]) ?hb ?hns (by k_is) (by k_is) ?hbind ?hkind ?hnd ?hap ?hnp ?hco ?hgen ?hk
  case hns => decide +kernel
  case hbind => exact fun s => bind1 fun a0 => BindsTo.of_eq rfl
  case hkind => exact kinds_of (by decide +kernel)
  case hnd => decide +kernel
  case hap => (intro L; first | exact List.Pairwise.nil | (simp [cellsFrom]; done) | (simp [cellsFrom]; omega))
  case hnp => decide
  case hco => rfl
  case hgen => rfl
  case hk => rfl
  case hb =>
    exact (@sndb_cons _ _ _ _ _ _ _ _ _ (@snds_if _ _ _ _ _ _ _ _ _ _ _ _ (@sndT_cmp _ _ _ _ _ _ _ _ _ _ _ _ cmp_eq (@snd_attr _ _ _ _ _ _ _ _ _ _ (@snd_loc _ _ _ _ _ _ _ (i := 0) rfl rfl (by law_fin)) n_kind (by law_fin)) (@snd_str _ _ _ _ _ _ _ _ _ (by law_fin)) (by law_fin)) (@sndb_cons _ _ _ _ _ _ _ _ _ (@snds_ret _ _ _ _ _ _ _ _ (@snd_list _ _ _ _ _ _ _ _ (@snds_nil _ _ _ _ _)))
      (@sndb_nil _ _ _ _ _)) (@sndb_nil _ _ _ _ _))
      (@sndb_cons _ _ _ _ _ _ _ _ _ (@snds_if _ _ _ _ _ _ _ _ _ _ _ _ (@sndT_cmp _ _ _ _ _ _ _ _ _ _ _ _ cmp_in (@snd_attr _ _ _ _ _ _ _ _ _ _ (@snd_loc _ _ _ _ _ _ _ (i := 0) rfl rfl (by law_fin)) n_kind (by law_fin)) (@snd_tup _ _ _ _ _ _ _ _ _ (@snds_cons _ _ _ _ _ _ _ _ _ (@snd_str _ _ _ _ _ _ _ _ _ (by law_fin)) (@snds_cons _ _ _ _ _ _ _ _ _ (@snd_str _ _ _ _ _ _ _ _ _ (by law_fin)) (@snds_cons _ _ _ _ _ _ _ _ _ (@snd_str _ _ _ _ _ _ _ _ _ (by law_fin)) (@snds_nil _ _ _ _ _) (by law_fin)) (by law_fin)) (by law_fin))) (by law_fin)) (@sndb_cons _ _ _ _ _ _ _ _ _ (@snds_ret _ _ _ _ _ _ _ _ (@snd_bi _ _ _ _ _ _ _ _ _ _ _ _ bi_lst rfl (gb_list _) (.inr ⟨_, rfl⟩) (by law_fin) (by law_fin) (@snd_attr _ _ _ _ _ _ _ _ _ _ (@snd_loc _ _ _ _ _ _ _ (i := 0) rfl rfl (by law_fin)) n_items (by law_fin)) (fun _ => rfl)))
      (@sndb_nil _ _ _ _ _)) (@sndb_nil _ _ _ _ _))
      (@sndb_cons _ _ _ _ _ _ _ _ _ (@snds_if _ _ _ _ _ _ _ _ _ _ _ _ (@sndT_plain _ _ _ _ _ _ _ (@snd_isI _ _ _ _ _ _ _ _ _ _ _ _ (gb_isinstance _) (gf_Vector _) (by law_fin) (by law_fin) (by law_fin) (by law_fin) (@snd_loc _ _ _ _ _ _ _ (i := 0) rfl rfl (by law_fin)) (fun _ => rfl) (fun _ => rfl)) (fun _ _ => rfl)) (@sndb_cons _ _ _ _ _ _ _ _ _ (@snds_ret _ _ _ _ _ _ _ _ (@snd_comp _ _ _ _ _ _ _ _ _ _ _ (c := ⟨_, _, (fun L => [(Str.ofString "v", L + 1)])⟩) (by exact ⟨rfl, rfl, rfl, by decide +kernel, by decide +kernel, by decide +kernel, fun _ => rfl, fun _ _ => rfl⟩) (@snd_call _ _ _ _ _ _ _ _ _ _ _ _ _ _ _ (@mkn_vec _ _ _ _) (by law_fin) (by law_fin) (gf_Vector _) (by law_fin) (by law_fin) rfl (@snds_cons _ _ _ _ _ _ _ _ _ (@snd_attr _ _ _ _ _ _ _ _ _ _ (@snd_locC _ _ _ _ _ _ _ _ (i := 0) rfl rfl (by law_fin) (by law_fin) (by law_fin) (fun _ => rfl)) n_kind (by law_fin)) (@snds_cons _ _ _ _ _ _ _ _ _ (@snd_list _ _ _ _ _ _ _ _ (@snds_cons _ _ _ _ _ _ _ _ _ (@snd_cv _ _ _ _ _ _ _ _ rfl rfl (by law_fin) (by law_fin)) (@snds_nil _ _ _ _ _) (by law_fin))) (@snds_nil _ _ _ _ _) (by law_fin)) (by law_fin)) (by law_fin) (fun _ _ => rfl)) (@snd_attr _ _ _ _ _ _ _ _ _ _ (@snd_loc _ _ _ _ _ _ _ (i := 0) rfl rfl (by law_fin)) n_items (by law_fin))))
      (@sndb_nil _ _ _ _ _)) (@sndb_nil _ _ _ _ _))
      (@sndb_cons _ _ _ _ _ _ _ _ _ (@snds_ret _ _ _ _ _ _ _ _ (@snd_list _ _ _ _ _ _ _ _ (@snds_cons _ _ _ _ _ _ _ _ _ (@snd_loc _ _ _ _ _ _ _ (i := 0) rfl rfl (by law_fin)) (@snds_nil _ _ _ _ _) (by law_fin))))
      (@sndb_nil _ _ _ _ _)))))

theorem s627 : SndF w mg mb means 627 2 5 (callF 5 f627) := by
  refine fn_snd (lev := 5) (ns := [Str.ofString "made", Str.ofString "v", Str.ofString "wanted", Str.ofString "step", Str.ofString "heads"]) ?hb ?hns (by k_is) (by k_is) ?hbind ?hkind ?hnd ?hap ?hnp ?hco ?hgen ?hk
  case hns => decide +kernel
  case hbind => exact fun s => bind2 fun a0 a1 => BindsTo.of_eq rfl
  case hkind => exact kinds_of (by decide +kernel)
  case hnd => decide +kernel
  case hap => (intro L; first | exact List.Pairwise.nil | (simp [cellsFrom]; done) | (simp [cellsFrom]; omega))
  case hnp => decide
  case hco => rfl
  case hgen => rfl
  case hk => rfl
  case hb =>
    exact (@sndb_cons _ _ _ _ _ _ _ _ _ (@snds_asg _ _ _ _ _ _ _ _ _ _ _ rfl rfl (@snd_call _ _ _ _ _ _ _ _ _ _ _ _ _ _ _ (@s620 w mg mb means) (by law_fin) (by law_fin) (gf_law_listed _) (by law_fin) (by law_fin) rfl (@snds_cons _ _ _ _ _ _ _ _ _ (@snd_loc _ _ _ _ _ _ _ (i := 1) rfl rfl (by law_fin)) (@snds_nil _ _ _ _ _) (by law_fin)) (by law_fin) (fun _ _ => rfl)) (.inl (by law_fin)) (fun _ => rfl))
      (@sndb_cons _ _ _ _ _ _ _ _ _ (@snds_if _ _ _ _ _ _ _ _ _ _ _ _ (@sndT_or _ _ _ _ _ _ _ _ _ _ _ (@sndT_cmp _ _ _ _ _ _ _ _ _ _ _ _ cmp_ne (@snd_attr _ _ _ _ _ _ _ _ _ _ (@snd_loc _ _ _ _ _ _ _ (i := 0) rfl rfl (by law_fin)) n_kind (by law_fin)) (@snd_str _ _ _ _ _ _ _ _ _ (by law_fin)) (by law_fin)) (@sndT_or1 _ _ _ _ _ _ _ _ (@sndT_cmp _ _ _ _ _ _ _ _ _ _ _ _ cmp_ne (@snd_bi _ _ _ _ _ _ _ _ _ _ _ _ bi_len rfl (gb_len _) (.inl ⟨_, rfl⟩) (by law_fin) (by law_fin) (@snd_attr _ _ _ _ _ _ _ _ _ _ (@snd_loc _ _ _ _ _ _ _ (i := 0) rfl rfl (by law_fin)) n_items (by law_fin)) (fun _ => rfl)) (@snd_bi _ _ _ _ _ _ _ _ _ _ _ _ bi_len rfl (gb_len _) (.inl ⟨_, rfl⟩) (by law_fin) (by law_fin) (@snd_loc _ _ _ _ _ _ _ (i := 2) rfl rfl (by law_fin)) (fun _ => rfl)) (by law_fin)))) (@sndb_cons _ _ _ _ _ _ _ _ _ (@snds_ret _ _ _ _ _ _ _ _ (@snd_bool _ _ _ _ _ _ _ _))
      (@sndb_nil _ _ _ _ _)) (@sndb_nil _ _ _ _ _))
      (@sndb_cons _ _ _ _ _ _ _ _ _ (@snds_forR _ _ _ _ _ _ _ _ _ _ _ _ _ _ _ _ rfl rfl (gb_range _) (by law_fin) (by law_fin) (fun _ => rfl) rfl (@snd_bi _ _ _ _ _ _ _ _ _ _ _ _ bi_len rfl (gb_len _) (.inl ⟨_, rfl⟩) (by law_fin) (by law_fin) (@snd_loc _ _ _ _ _ _ _ (i := 2) rfl rfl (by law_fin)) (fun _ => rfl)) (@sndb_cons _ _ _ _ _ _ _ _ _ (@snds_if _ _ _ _ _ _ _ _ _ _ _ _ (@sndT_not _ _ _ _ _ _ _ _ (@sndT_plain _ _ _ _ _ _ _ (@snd_call _ _ _ _ _ _ _ _ _ _ _ _ _ _ _ (@s610 w mg mb means) (by law_fin) (by law_fin) (gf_law_alike _) (by law_fin) (by law_fin) rfl (@snds_cons _ _ _ _ _ _ _ _ _ (@snd_sub _ _ _ _ _ _ _ _ _ _ (@snd_attr _ _ _ _ _ _ _ _ _ _ (@snd_loc _ _ _ _ _ _ _ (i := 0) rfl rfl (by law_fin)) n_items (by law_fin)) (@snd_loc _ _ _ _ _ _ _ (i := 3) rfl rfl (by law_fin)) (fun _ _ _ => rfl)) (@snds_cons _ _ _ _ _ _ _ _ _ (@snd_sub _ _ _ _ _ _ _ _ _ _ (@snd_loc _ _ _ _ _ _ _ (i := 2) rfl rfl (by law_fin)) (@snd_loc _ _ _ _ _ _ _ (i := 3) rfl rfl (by law_fin)) (fun _ _ _ => rfl)) (@snds_nil _ _ _ _ _) (by law_fin)) (by law_fin)) (by law_fin) (fun _ _ => rfl)) (fun _ _ => rfl))) (@sndb_cons _ _ _ _ _ _ _ _ _ (@snds_ret _ _ _ _ _ _ _ _ (@snd_bool _ _ _ _ _ _ _ _))
      (@sndb_nil _ _ _ _ _)) (@sndb_nil _ _ _ _ _))
      (@sndb_nil _ _ _ _ _)) (.inl (by law_fin)) (fun _ _ => rfl))
      (@sndb_cons _ _ _ _ _ _ _ _ _ (@snds_asg _ _ _ _ _ _ _ _ _ _ _ rfl rfl (@snd_call _ _ _ _ _ _ _ _ _ _ _ _ _ _ _ (@s615 w mg mb means) (by law_fin) (by law_fin) (gf_law_heads _) (by law_fin) (by law_fin) rfl (@snds_cons _ _ _ _ _ _ _ _ _ (@snd_loc _ _ _ _ _ _ _ (i := 1) rfl rfl (by law_fin)) (@snds_nil _ _ _ _ _) (by law_fin)) (by law_fin) (fun _ _ => rfl)) (.inl (by law_fin)) (fun _ => rfl))
      (@sndb_cons _ _ _ _ _ _ _ _ _ (@snds_if _ _ _ _ _ _ _ _ _ _ _ _ (@sndT_cmp _ _ _ _ _ _ _ _ _ _ _ _ cmp_is (@snd_loc _ _ _ _ _ _ _ (i := 4) rfl rfl (by law_fin)) (@snd_none _ _ _ _ _ _ _) (by law_fin)) (@sndb_cons _ _ _ _ _ _ _ _ _ (@snds_ret _ _ _ _ _ _ _ _ (@snd_cmp _ _ _ _ _ _ _ _ _ _ _ _ cmp_is (@snd_attr _ _ _ _ _ _ _ _ _ _ (@snd_loc _ _ _ _ _ _ _ (i := 0) rfl rfl (by law_fin)) n_attrs (by law_fin)) (@snd_none _ _ _ _ _ _ _) (by law_fin)))
      (@sndb_nil _ _ _ _ _)) (@sndb_nil _ _ _ _ _))
      (@sndb_cons _ _ _ _ _ _ _ _ _ (@snds_ret _ _ _ _ _ _ _ _ (@snd_and _ _ _ _ _ _ _ _ _ _ _ _ (@snd_cmp _ _ _ _ _ _ _ _ _ _ _ _ cmp_eq (@snd_bi _ _ _ _ _ _ _ _ _ _ _ _ bi_lst rfl (gb_list _) (.inr ⟨_, rfl⟩) (by law_fin) (by law_fin) (@snd_attr _ _ _ _ _ _ _ _ _ _ (@snd_loc _ _ _ _ _ _ _ (i := 0) rfl rfl (by law_fin)) n_attrs (by law_fin)) (fun _ => rfl)) (@snd_list _ _ _ _ _ _ _ _ (@snds_cons _ _ _ _ _ _ _ _ _ (@snd_str _ _ _ _ _ _ _ _ _ (by law_fin)) (@snds_nil _ _ _ _ _) (by law_fin))) (by law_fin)) (@snd_and1 _ _ _ _ _ _ _ _ (@snd_cmp _ _ _ _ _ _ _ _ _ _ _ _ cmp_eq (@snd_attr _ _ _ _ _ _ _ _ _ _ (@snd_subK _ _ _ _ _ _ _ _ _ _ (@snd_attr _ _ _ _ _ _ _ _ _ _ (@snd_loc _ _ _ _ _ _ _ (i := 0) rfl rfl (by law_fin)) n_attrs (by law_fin)) (@snd_str _ _ _ _ _ _ _ _ _ (by law_fin)) (fun _ _ _ => rfl)) n_items (by law_fin)) (@snd_loc _ _ _ _ _ _ _ (i := 4) rfl rfl (by law_fin)) (by law_fin)))))
      (@sndb_nil _ _ _ _ _)))))))

theorem s634 : SndF w mg mb means 634 2 7 (callF 4 f634) := by
  refine fn_snd (lev := 7) (ns := [Str.ofString "v", Str.ofString "kind", Str.ofString "made", Str.ofString "fault"]) ?hb ?hns (by k_is) (by k_is) ?hbind ?hkind ?hnd ?hap ?hnp ?hco ?hgen ?hk
  case hns => decide +kernel
  case hbind => exact fun s => bind2 fun a0 a1 => BindsTo.of_eq rfl
  case hkind => exact kinds_of (by decide +kernel)
  case hnd => decide +kernel
  case hap => (intro L; first | exact List.Pairwise.nil | (simp [cellsFrom]; done) | (simp [cellsFrom]; omega))
  case hnp => decide
  case hco => rfl
  case hgen => rfl
  case hk => rfl
  case hb =>
    exact (@sndb_cons _ _ _ _ _ _ _ _ _ (@snds_try _ _ _ _ _ _ _ _ _ _ _ _ _ _ _ rfl rfl rfl (by law_fin) (@sndb_cons _ _ _ _ _ _ _ _ _ (@snds_asg _ _ _ _ _ _ _ _ _ _ _ rfl rfl (@snd_call _ _ _ _ _ _ _ _ _ _ _ _ _ _ _ (@s522 w mg mb means) (by law_fin) (by law_fin) (gf_as_vector_kind _) (by law_fin) (by law_fin) rfl (@snds_cons _ _ _ _ _ _ _ _ _ (@snd_loc _ _ _ _ _ _ _ (i := 0) rfl rfl (by law_fin)) (@snds_cons _ _ _ _ _ _ _ _ _ (@snd_loc _ _ _ _ _ _ _ (i := 1) rfl rfl (by law_fin)) (@snds_nil _ _ _ _ _) (by law_fin)) (by law_fin)) (by law_fin) (fun _ _ => rfl)) (.inl (by law_fin)) (fun _ => rfl))
      (@sndb_nil _ _ _ _ _)) (@sndb_cons _ _ _ _ _ _ _ _ _ (@snds_ret _ _ _ _ _ _ _ _ (@snd_tup _ _ _ _ _ _ _ _ _ (@snds_cons _ _ _ _ _ _ _ _ _ (@snd_msg _ _ _ _ _ _ _ _ (@snd_loc _ _ _ _ _ _ _ (i := 3) rfl rfl (by law_fin)) (by law_fin)) (@snds_cons _ _ _ _ _ _ _ _ _ (@snd_none _ _ _ _ _ _ _) (@snds_nil _ _ _ _ _) (by law_fin)) (by law_fin))))
      (@sndb_nil _ _ _ _ _)) (by law_fin))
      (@sndb_cons _ _ _ _ _ _ _ _ _ (@snds_ret _ _ _ _ _ _ _ _ (@snd_tup _ _ _ _ _ _ _ _ _ (@snds_cons _ _ _ _ _ _ _ _ _ (@snd_str _ _ _ _ _ _ _ _ _ (by law_fin)) (@snds_cons _ _ _ _ _ _ _ _ _ (@snd_loc _ _ _ _ _ _ _ (i := 2) rfl rfl (by law_fin)) (@snds_nil _ _ _ _ _) (by law_fin)) (by law_fin))))
      (@sndb_nil _ _ _ _ _)))

theorem s648 : SndF w mg mb means 648 1 8 (callF 5 f648) := by
  refine fn_snd (lev := 8) (ns := [Str.ofString "v", Str.ofString "refused", Str.ofString "said", Str.ofString "made", Str.ofString "texts"]) ?hb ?hns (by k_is) (by k_is) ?hbind ?hkind ?hnd ?hap ?hnp ?hco ?hgen ?hk
  case hns => decide +kernel
  case hbind => exact fun s => bind1 fun a0 => BindsTo.of_eq rfl
  case hkind => exact kinds_of (by decide +kernel)
  case hnd => decide +kernel
  case hap => (intro L; first | exact List.Pairwise.nil | (simp [cellsFrom]; done) | (simp [cellsFrom]; omega))
  case hnp => decide
  case hco => rfl
  case hgen => rfl
  case hk => rfl
  case hb =>
    exact (@sndb_cons _ _ _ _ _ _ _ _ _ (@snds_asg _ _ _ _ _ _ _ _ _ _ _ rfl rfl (@snd_add _ _ _ _ _ _ _ _ _ _ (@snd_add _ _ _ _ _ _ _ _ _ _ (@snd_str _ _ _ _ _ _ _ _ _ (by law_fin)) (@snd_attr _ _ _ _ _ _ _ _ _ _ (@snd_loc _ _ _ _ _ _ _ (i := 0) rfl rfl (by law_fin)) n_kind (by law_fin))) (@snd_str _ _ _ _ _ _ _ _ _ (by law_fin))) (.inl (by law_fin)) (fun _ => rfl))
      (@sndb_cons _ _ _ _ _ _ _ _ _ (@snds_asg2 _ _ _ _ _ _ _ _ _ _ _ _ _ _ _ _ rfl rfl rfl rfl (@snd_call _ _ _ _ _ _ _ _ _ _ _ _ _ _ _ (@s634 w mg mb means) (by law_fin) (by law_fin) (gf_law_made _) (by law_fin) (by law_fin) rfl (@snds_cons _ _ _ _ _ _ _ _ _ (@snd_loc _ _ _ _ _ _ _ (i := 0) rfl rfl (by law_fin)) (@snds_cons _ _ _ _ _ _ _ _ _ (@snd_str _ _ _ _ _ _ _ _ _ (by law_fin)) (@snds_nil _ _ _ _ _) (by law_fin)) (by law_fin)) (by law_fin) (fun _ _ => rfl)) (.inl (by law_fin)) (.inl (by law_fin)) (fun _ => rfl) (fun _ => rfl))
      (@sndb_cons _ _ _ _ _ _ _ _ _ (@snds_if _ _ _ _ _ _ _ _ _ _ _ _ (@sndT_cmp _ _ _ _ _ _ _ _ _ _ _ _ cmp_eq (@snd_attr _ _ _ _ _ _ _ _ _ _ (@snd_loc _ _ _ _ _ _ _ (i := 0) rfl rfl (by law_fin)) n_kind (by law_fin)) (@snd_str _ _ _ _ _ _ _ _ _ (by law_fin)) (by law_fin)) (@sndb_cons _ _ _ _ _ _ _ _ _ (@snds_ret _ _ _ _ _ _ _ _ (@snd_and _ _ _ _ _ _ _ _ _ _ _ _ (@snd_cmp _ _ _ _ _ _ _ _ _ _ _ _ cmp_eq (@snd_loc _ _ _ _ _ _ _ (i := 2) rfl rfl (by law_fin)) (@snd_str _ _ _ _ _ _ _ _ _ (by law_fin)) (by law_fin)) (@snd_and _ _ _ _ _ _ _ _ _ _ _ _ (@snd_cmp _ _ _ _ _ _ _ _ _ _ _ _ cmp_eq (@snd_attr _ _ _ _ _ _ _ _ _ _ (@snd_loc _ _ _ _ _ _ _ (i := 3) rfl rfl (by law_fin)) n_kind (by law_fin)) (@snd_str _ _ _ _ _ _ _ _ _ (by law_fin)) (by law_fin)) (@snd_and1 _ _ _ _ _ _ _ _ (@snd_cmp _ _ _ _ _ _ _ _ _ _ _ _ cmp_eq (@snd_attr _ _ _ _ _ _ _ _ _ _ (@snd_loc _ _ _ _ _ _ _ (i := 3) rfl rfl (by law_fin)) n_items (by law_fin)) (@snd_list _ _ _ _ _ _ _ _ (@snds_nil _ _ _ _ _)) (by law_fin))))))
      (@sndb_nil _ _ _ _ _)) (@sndb_nil _ _ _ _ _))
      (@sndb_cons _ _ _ _ _ _ _ _ _ (@snds_if _ _ _ _ _ _ _ _ _ _ _ _ (@sndT_cmp _ _ _ _ _ _ _ _ _ _ _ _ cmp_ne (@snd_loc _ _ _ _ _ _ _ (i := 2) rfl rfl (by law_fin)) (@snd_add _ _ _ _ _ _ _ _ _ _ (@snd_loc _ _ _ _ _ _ _ (i := 1) rfl rfl (by law_fin)) (@snd_str _ _ _ _ _ _ _ _ _ (by law_fin))) (by law_fin)) (@sndb_cons _ _ _ _ _ _ _ _ _ (@snds_ret _ _ _ _ _ _ _ _ (@snd_bool _ _ _ _ _ _ _ _))
      (@sndb_nil _ _ _ _ _)) (@sndb_nil _ _ _ _ _))
      (@sndb_cons _ _ _ _ _ _ _ _ _ (@snds_asg2 _ _ _ _ _ _ _ _ _ _ _ _ _ _ _ _ rfl rfl rfl rfl (@snd_call _ _ _ _ _ _ _ _ _ _ _ _ _ _ _ (@s634 w mg mb means) (by law_fin) (by law_fin) (gf_law_made _) (by law_fin) (by law_fin) rfl (@snds_cons _ _ _ _ _ _ _ _ _ (@snd_loc _ _ _ _ _ _ _ (i := 0) rfl rfl (by law_fin)) (@snds_cons _ _ _ _ _ _ _ _ _ (@snd_str _ _ _ _ _ _ _ _ _ (by law_fin)) (@snds_nil _ _ _ _ _) (by law_fin)) (by law_fin)) (by law_fin) (fun _ _ => rfl)) (.inl (by law_fin)) (.inl (by law_fin)) (fun _ => rfl) (fun _ => rfl))
      (@sndb_cons _ _ _ _ _ _ _ _ _ (@snds_if _ _ _ _ _ _ _ _ _ _ _ _ (@sndT_or _ _ _ _ _ _ _ _ _ _ _ (@sndT_cmp _ _ _ _ _ _ _ _ _ _ _ _ cmp_eq (@snd_attr _ _ _ _ _ _ _ _ _ _ (@snd_loc _ _ _ _ _ _ _ (i := 0) rfl rfl (by law_fin)) n_kind (by law_fin)) (@snd_str _ _ _ _ _ _ _ _ _ (by law_fin)) (by law_fin)) (@sndT_or1 _ _ _ _ _ _ _ _ (@sndT_cmp _ _ _ _ _ _ _ _ _ _ _ _ cmp_eq (@snd_attr _ _ _ _ _ _ _ _ _ _ (@snd_loc _ _ _ _ _ _ _ (i := 0) rfl rfl (by law_fin)) n_kind (by law_fin)) (@snd_str _ _ _ _ _ _ _ _ _ (by law_fin)) (by law_fin)))) (@sndb_cons _ _ _ _ _ _ _ _ _ (@snds_if _ _ _ _ _ _ _ _ _ _ _ _ (@sndT_or _ _ _ _ _ _ _ _ _ _ _ (@sndT_cmp _ _ _ _ _ _ _ _ _ _ _ _ cmp_ne (@snd_loc _ _ _ _ _ _ _ (i := 2) rfl rfl (by law_fin)) (@snd_str _ _ _ _ _ _ _ _ _ (by law_fin)) (by law_fin)) (@sndT_or _ _ _ _ _ _ _ _ _ _ _ (@sndT_cmp _ _ _ _ _ _ _ _ _ _ _ _ cmp_ne (@snd_attr _ _ _ _ _ _ _ _ _ _ (@snd_loc _ _ _ _ _ _ _ (i := 3) rfl rfl (by law_fin)) n_kind (by law_fin)) (@snd_str _ _ _ _ _ _ _ _ _ (by law_fin)) (by law_fin)) (@sndT_or _ _ _ _ _ _ _ _ _ _ _ (@sndT_cmp _ _ _ _ _ _ _ _ _ _ _ _ cmp_ne (@snd_bi _ _ _ _ _ _ _ _ _ _ _ _ bi_len rfl (gb_len _) (.inl ⟨_, rfl⟩) (by law_fin) (by law_fin) (@snd_attr _ _ _ _ _ _ _ _ _ _ (@snd_loc _ _ _ _ _ _ _ (i := 3) rfl rfl (by law_fin)) n_items (by law_fin)) (fun _ => rfl)) (@snd_int _ _ _ _ _ _ _ _) (by law_fin)) (@sndT_or1 _ _ _ _ _ _ _ _ (@sndT_not _ _ _ _ _ _ _ _ (@sndT_plain _ _ _ _ _ _ _ (@snd_call _ _ _ _ _ _ _ _ _ _ _ _ _ _ _ (@s610 w mg mb means) (by law_fin) (by law_fin) (gf_law_alike _) (by law_fin) (by law_fin) rfl (@snds_cons _ _ _ _ _ _ _ _ _ (@snd_sub _ _ _ _ _ _ _ _ _ _ (@snd_attr _ _ _ _ _ _ _ _ _ _ (@snd_loc _ _ _ _ _ _ _ (i := 3) rfl rfl (by law_fin)) n_items (by law_fin)) (@snd_int _ _ _ _ _ _ _ _) (fun _ _ _ => rfl)) (@snds_cons _ _ _ _ _ _ _ _ _ (@snd_loc _ _ _ _ _ _ _ (i := 0) rfl rfl (by law_fin)) (@snds_nil _ _ _ _ _) (by law_fin)) (by law_fin)) (by law_fin) (fun _ _ => rfl)) (fun _ _ => rfl))))))) (@sndb_cons _ _ _ _ _ _ _ _ _ (@snds_ret _ _ _ _ _ _ _ _ (@snd_bool _ _ _ _ _ _ _ _))
      (@sndb_nil _ _ _ _ _)) (@sndb_nil _ _ _ _ _))
      (@sndb_nil _ _ _ _ _)) (@sndb_cons _ _ _ _ _ _ _ _ _ (@snds_if _ _ _ _ _ _ _ _ _ _ _ _ (@sndT_cmp _ _ _ _ _ _ _ _ _ _ _ _ cmp_ne (@snd_loc _ _ _ _ _ _ _ (i := 2) rfl rfl (by law_fin)) (@snd_add _ _ _ _ _ _ _ _ _ _ (@snd_loc _ _ _ _ _ _ _ (i := 1) rfl rfl (by law_fin)) (@snd_str _ _ _ _ _ _ _ _ _ (by law_fin))) (by law_fin)) (@sndb_cons _ _ _ _ _ _ _ _ _ (@snds_ret _ _ _ _ _ _ _ _ (@snd_bool _ _ _ _ _ _ _ _))
      (@sndb_nil _ _ _ _ _)) (@sndb_nil _ _ _ _ _))
      (@sndb_nil _ _ _ _ _)))
      (@sndb_cons _ _ _ _ _ _ _ _ _ (@snds_asg2 _ _ _ _ _ _ _ _ _ _ _ _ _ _ _ _ rfl rfl rfl rfl (@snd_call _ _ _ _ _ _ _ _ _ _ _ _ _ _ _ (@s634 w mg mb means) (by law_fin) (by law_fin) (gf_law_made _) (by law_fin) (by law_fin) rfl (@snds_cons _ _ _ _ _ _ _ _ _ (@snd_loc _ _ _ _ _ _ _ (i := 0) rfl rfl (by law_fin)) (@snds_cons _ _ _ _ _ _ _ _ _ (@snd_str _ _ _ _ _ _ _ _ _ (by law_fin)) (@snds_nil _ _ _ _ _) (by law_fin)) (by law_fin)) (by law_fin) (fun _ _ => rfl)) (.inl (by law_fin)) (.inl (by law_fin)) (fun _ => rfl) (fun _ => rfl))
      (@sndb_cons _ _ _ _ _ _ _ _ _ (@snds_if _ _ _ _ _ _ _ _ _ _ _ _ (@sndT_cmp _ _ _ _ _ _ _ _ _ _ _ _ cmp_eq (@snd_attr _ _ _ _ _ _ _ _ _ _ (@snd_loc _ _ _ _ _ _ _ (i := 0) rfl rfl (by law_fin)) n_kind (by law_fin)) (@snd_str _ _ _ _ _ _ _ _ _ (by law_fin)) (by law_fin)) (@sndb_cons _ _ _ _ _ _ _ _ _ (@snds_ret _ _ _ _ _ _ _ _ (@snd_and _ _ _ _ _ _ _ _ _ _ _ _ (@snd_cmp _ _ _ _ _ _ _ _ _ _ _ _ cmp_eq (@snd_loc _ _ _ _ _ _ _ (i := 2) rfl rfl (by law_fin)) (@snd_str _ _ _ _ _ _ _ _ _ (by law_fin)) (by law_fin)) (@snd_and _ _ _ _ _ _ _ _ _ _ _ _ (@snd_cmp _ _ _ _ _ _ _ _ _ _ _ _ cmp_eq (@snd_attr _ _ _ _ _ _ _ _ _ _ (@snd_loc _ _ _ _ _ _ _ (i := 3) rfl rfl (by law_fin)) n_kind (by law_fin)) (@snd_str _ _ _ _ _ _ _ _ _ (by law_fin)) (by law_fin)) (@snd_and1 _ _ _ _ _ _ _ _ (@snd_cmp _ _ _ _ _ _ _ _ _ _ _ _ cmp_eq (@snd_attr _ _ _ _ _ _ _ _ _ _ (@snd_loc _ _ _ _ _ _ _ (i := 3) rfl rfl (by law_fin)) n_items (by law_fin)) (@snd_list _ _ _ _ _ _ _ _ (@snds_cons _ _ _ _ _ _ _ _ _ (@snd_attr _ _ _ _ _ _ _ _ _ _ (@snd_loc _ _ _ _ _ _ _ (i := 0) rfl rfl (by law_fin)) n_name (by law_fin)) (@snds_nil _ _ _ _ _) (by law_fin))) (by law_fin))))))
      (@sndb_nil _ _ _ _ _)) (@sndb_nil _ _ _ _ _))
      (@sndb_cons _ _ _ _ _ _ _ _ _ (@snds_if _ _ _ _ _ _ _ _ _ _ _ _ (@sndT_cmp _ _ _ _ _ _ _ _ _ _ _ _ cmp_ne (@snd_attr _ _ _ _ _ _ _ _ _ _ (@snd_loc _ _ _ _ _ _ _ (i := 0) rfl rfl (by law_fin)) n_kind (by law_fin)) (@snd_str _ _ _ _ _ _ _ _ _ (by law_fin)) (by law_fin)) (@sndb_cons _ _ _ _ _ _ _ _ _ (@snds_ret _ _ _ _ _ _ _ _ (@snd_cmp _ _ _ _ _ _ _ _ _ _ _ _ cmp_eq (@snd_loc _ _ _ _ _ _ _ (i := 2) rfl rfl (by law_fin)) (@snd_add _ _ _ _ _ _ _ _ _ _ (@snd_loc _ _ _ _ _ _ _ (i := 1) rfl rfl (by law_fin)) (@snd_str _ _ _ _ _ _ _ _ _ (by law_fin))) (by law_fin)))
      (@sndb_nil _ _ _ _ _)) (@sndb_nil _ _ _ _ _))
      (@sndb_cons _ _ _ _ _ _ _ _ _ (@snds_asg _ _ _ _ _ _ _ _ _ _ _ rfl rfl (@snd_call _ _ _ _ _ _ _ _ _ _ _ _ _ _ _ (@s641 w mg mb means) (by law_fin) (by law_fin) (gf_law_texts _) (by law_fin) (by law_fin) rfl (@snds_cons _ _ _ _ _ _ _ _ _ (@snd_loc _ _ _ _ _ _ _ (i := 0) rfl rfl (by law_fin)) (@snds_nil _ _ _ _ _) (by law_fin)) (by law_fin) (fun _ _ => rfl)) (.inl (by law_fin)) (fun _ => rfl))
      (@sndb_cons _ _ _ _ _ _ _ _ _ (@snds_if _ _ _ _ _ _ _ _ _ _ _ _ (@sndT_cmp _ _ _ _ _ _ _ _ _ _ _ _ cmp_is (@snd_loc _ _ _ _ _ _ _ (i := 4) rfl rfl (by law_fin)) (@snd_none _ _ _ _ _ _ _) (by law_fin)) (@sndb_cons _ _ _ _ _ _ _ _ _ (@snds_ret _ _ _ _ _ _ _ _ (@snd_cmp _ _ _ _ _ _ _ _ _ _ _ _ cmp_eq (@snd_loc _ _ _ _ _ _ _ (i := 2) rfl rfl (by law_fin)) (@snd_str _ _ _ _ _ _ _ _ _ (by law_fin)) (by law_fin)))
      (@sndb_nil _ _ _ _ _)) (@sndb_nil _ _ _ _ _))
      (@sndb_cons _ _ _ _ _ _ _ _ _ (@snds_ret _ _ _ _ _ _ _ _ (@snd_and _ _ _ _ _ _ _ _ _ _ _ _ (@snd_cmp _ _ _ _ _ _ _ _ _ _ _ _ cmp_eq (@snd_loc _ _ _ _ _ _ _ (i := 2) rfl rfl (by law_fin)) (@snd_str _ _ _ _ _ _ _ _ _ (by law_fin)) (by law_fin)) (@snd_and _ _ _ _ _ _ _ _ _ _ _ _ (@snd_cmp _ _ _ _ _ _ _ _ _ _ _ _ cmp_eq (@snd_attr _ _ _ _ _ _ _ _ _ _ (@snd_loc _ _ _ _ _ _ _ (i := 3) rfl rfl (by law_fin)) n_kind (by law_fin)) (@snd_str _ _ _ _ _ _ _ _ _ (by law_fin)) (by law_fin)) (@snd_and1 _ _ _ _ _ _ _ _ (@snd_cmp _ _ _ _ _ _ _ _ _ _ _ _ cmp_eq (@snd_attr _ _ _ _ _ _ _ _ _ _ (@snd_loc _ _ _ _ _ _ _ (i := 3) rfl rfl (by law_fin)) n_items (by law_fin)) (@snd_loc _ _ _ _ _ _ _ (i := 4) rfl rfl (by law_fin)) (by law_fin))))))
      (@sndb_nil _ _ _ _ _)))))))))))))

theorem s582 : SndF w mg mb means 582 2 7 (callF 6 f582) := by
  refine fn_snd (lev := 7) (ns := [Str.ofString "state", Str.ofString "script", Str.ofString "form", Str.ofString "items", Str.ofString "env", Str.ofString "name"]) ?hb ?hns (by k_is) (by k_is) ?hbind ?hkind ?hnd ?hap ?hnp ?hco ?hgen ?hk
  case hns => decide +kernel
  case hbind => exact fun s => bind2 fun a0 a1 => BindsTo.of_eq rfl
  case hkind => exact kinds_of (by decide +kernel)
  case hnd => decide +kernel
  case hap => (intro L; first | exact List.Pairwise.nil | (simp [cellsFrom]; done) | (simp [cellsFrom]; omega))
  case hnp => decide
  case hco => rfl
  case hgen => rfl
  case hk => rfl
  case hb =>
    exact (@sndb_cons _ _ _ _ _ _ _ _ _ (@snds_asg _ _ _ _ _ _ _ _ _ _ _ rfl rfl (@snd_call _ _ _ _ _ _ _ _ _ _ _ _ _ _ _ (@take_snd _ _ _ _) (by law_fin) (by law_fin) (gf_law_take _) (by law_fin) (by law_fin) rfl (@snds_cons _ _ _ _ _ _ _ _ _ (@snd_loc _ _ _ _ _ _ _ (i := 0) rfl rfl (by law_fin)) (@snds_cons _ _ _ _ _ _ _ _ _ (@snd_int _ _ _ _ _ _ _ _) (@snds_nil _ _ _ _ _) (by law_fin)) (by law_fin)) (by law_fin) (fun _ _ => rfl)) (.inl (by law_fin)) (fun _ => rfl))
      (@sndb_cons _ _ _ _ _ _ _ _ _ (@snds_if _ _ _ _ _ _ _ _ _ _ _ _ (@sndT_cmp _ _ _ _ _ _ _ _ _ _ _ _ cmp_lt (@snd_loc _ _ _ _ _ _ _ (i := 2) rfl rfl (by law_fin)) (@snd_int _ _ _ _ _ _ _ _) (by law_fin)) (@sndb_cons _ _ _ _ _ _ _ _ _ (@snds_ret _ _ _ _ _ _ _ _ (@snd_call _ _ _ _ _ _ _ _ _ _ _ _ _ _ _ (@s577 w mg mb means) (by law_fin) (by law_fin) (gf_law_named _) (by law_fin) (by law_fin) rfl (@snds_cons _ _ _ _ _ _ _ _ _ (@snd_loc _ _ _ _ _ _ _ (i := 0) rfl rfl (by law_fin)) (@snds_cons _ _ _ _ _ _ _ _ _ (@snd_call _ _ _ _ _ _ _ _ _ _ _ _ _ _ _ (@s572 w mg mb means) (by law_fin) (by law_fin) (gf_law_atomic _) (by law_fin) (by law_fin) rfl (@snds_cons _ _ _ _ _ _ _ _ _ (@snd_loc _ _ _ _ _ _ _ (i := 0) rfl rfl (by law_fin)) (@snds_cons _ _ _ _ _ _ _ _ _ (@snd_loc _ _ _ _ _ _ _ (i := 1) rfl rfl (by law_fin)) (@snds_cons _ _ _ _ _ _ _ _ _ (@snd_sub _ _ _ _ _ _ _ _ _ _ (@snd_list _ _ _ _ _ _ _ _ (@snds_cons _ _ _ _ _ _ _ _ _ (@snd_int _ _ _ _ _ _ _ _) (@snds_cons _ _ _ _ _ _ _ _ _ (@snd_int _ _ _ _ _ _ _ _) (@snds_cons _ _ _ _ _ _ _ _ _ (@snd_int _ _ _ _ _ _ _ _) (@snds_cons _ _ _ _ _ _ _ _ _ (@snd_int _ _ _ _ _ _ _ _) (@snds_cons _ _ _ _ _ _ _ _ _ (@snd_int _ _ _ _ _ _ _ _) (@snds_nil _ _ _ _ _) (by law_fin)) (by law_fin)) (by law_fin)) (by law_fin)) (by law_fin))) (@snd_call _ _ _ _ _ _ _ _ _ _ _ _ _ _ _ (@take_snd _ _ _ _) (by law_fin) (by law_fin) (gf_law_take _) (by law_fin) (by law_fin) rfl (@snds_cons _ _ _ _ _ _ _ _ _ (@snd_loc _ _ _ _ _ _ _ (i := 0) rfl rfl (by law_fin)) (@snds_cons _ _ _ _ _ _ _ _ _ (@snd_int _ _ _ _ _ _ _ _) (@snds_nil _ _ _ _ _) (by law_fin)) (by law_fin)) (by law_fin) (fun _ _ => rfl)) (fun _ _ _ => rfl)) (@snds_nil _ _ _ _ _) (by law_fin)) (by law_fin)) (by law_fin)) (by law_fin) (fun _ _ => rfl)) (@snds_nil _ _ _ _ _) (by law_fin)) (by law_fin)) (by law_fin) (fun _ _ => rfl)))
      (@sndb_nil _ _ _ _ _)) (@sndb_nil _ _ _ _ _))
      (@sndb_cons _ _ _ _ _ _ _ _ _ (@snds_if _ _ _ _ _ _ _ _ _ _ _ _ (@sndT_or _ _ _ _ _ _ _ _ _ _ _ (@sndT_cmp _ _ _ _ _ _ _ _ _ _ _ _ cmp_eq (@snd_loc _ _ _ _ _ _ _ (i := 2) rfl rfl (by law_fin)) (@snd_int _ _ _ _ _ _ _ _) (by law_fin)) (@sndT_or1 _ _ _ _ _ _ _ _ (@sndT_cmp _ _ _ _ _ _ _ _ _ _ _ _ cmp_eq (@snd_loc _ _ _ _ _ _ _ (i := 2) rfl rfl (by law_fin)) (@snd_int _ _ _ _ _ _ _ _) (by law_fin)))) (@sndb_cons _ _ _ _ _ _ _ _ _ (@snds_asgCR _ _ _ _ _ _ _ _ _ _ _ _ _ _ _ _ _ _ (c := ⟨_, _, (fun L => [(Str.ofString "state", L + 1), (Str.ofString "script", L + 2)])⟩) (by exact ⟨rfl, rfl, rfl, by decide +kernel, by decide +kernel, by decide +kernel, fun _ => rfl, fun _ _ => rfl⟩) (gb_range _) (by law_fin) (by law_fin) (fun _ => rfl) (@snd_call _ _ _ _ _ _ _ _ _ _ _ _ _ _ _ (@s589 w mg mb means) (by law_fin) (by law_fin) (gf_law_simple _) (by law_fin) (by law_fin) rfl (@snds_cons _ _ _ _ _ _ _ _ _ (@snd_locC _ _ _ _ _ _ _ _ (i := 0) rfl rfl (by law_fin) (by law_fin) (by law_fin) (fun _ => rfl)) (@snds_cons _ _ _ _ _ _ _ _ _ (@snd_locC _ _ _ _ _ _ _ _ (i := 1) rfl rfl (by law_fin) (by law_fin) (by law_fin) (fun _ => rfl)) (@snds_nil _ _ _ _ _) (by law_fin)) (by law_fin)) (by law_fin) (fun _ _ => rfl)) (@snd_call _ _ _ _ _ _ _ _ _ _ _ _ _ _ _ (@take_snd _ _ _ _) (by law_fin) (by law_fin) (gf_law_take _) (by law_fin) (by law_fin) rfl (@snds_cons _ _ _ _ _ _ _ _ _ (@snd_loc _ _ _ _ _ _ _ (i := 0) rfl rfl (by law_fin)) (@snds_cons _ _ _ _ _ _ _ _ _ (@snd_int _ _ _ _ _ _ _ _) (@snds_nil _ _ _ _ _) (by law_fin)) (by law_fin)) (by law_fin) (fun _ _ => rfl)) rfl (.inl (by law_fin)) (fun _ => rfl))
      (@sndb_cons _ _ _ _ _ _ _ _ _ (@snds_ret _ _ _ _ _ _ _ _ (@snd_call _ _ _ _ _ _ _ _ _ _ _ _ _ _ _ (@s577 w mg mb means) (by law_fin) (by law_fin) (gf_law_named _) (by law_fin) (by law_fin) rfl (@snds_cons _ _ _ _ _ _ _ _ _ (@snd_loc _ _ _ _ _ _ _ (i := 0) rfl rfl (by law_fin)) (@snds_cons _ _ _ _ _ _ _ _ _ (@snd_call _ _ _ _ _ _ _ _ _ _ _ _ _ _ _ (@mkn_vec _ _ _ _) (by law_fin) (by law_fin) (gf_Vector _) (by law_fin) (by law_fin) rfl (@snds_cons _ _ _ _ _ _ _ _ _ (@snd_ife _ _ _ _ _ _ _ _ _ _ _ _ (@sndT_cmp _ _ _ _ _ _ _ _ _ _ _ _ cmp_eq (@snd_loc _ _ _ _ _ _ _ (i := 2) rfl rfl (by law_fin)) (@snd_int _ _ _ _ _ _ _ _) (by law_fin)) (@snd_str _ _ _ _ _ _ _ _ _ (by law_fin)) (@snd_str _ _ _ _ _ _ _ _ _ (by law_fin))) (@snds_cons _ _ _ _ _ _ _ _ _ (@snd_loc _ _ _ _ _ _ _ (i := 3) rfl rfl (by law_fin)) (@snds_nil _ _ _ _ _) (by law_fin)) (by law_fin)) (by law_fin) (fun _ _ => rfl)) (@snds_nil _ _ _ _ _) (by law_fin)) (by law_fin)) (by law_fin) (fun _ _ => rfl)))
      (@sndb_nil _ _ _ _ _))) (@sndb_nil _ _ _ _ _))
      (@sndb_cons _ _ _ _ _ _ _ _ _ (@snds_if _ _ _ _ _ _ _ _ _ _ _ _ (@sndT_cmp _ _ _ _ _ _ _ _ _ _ _ _ cmp_eq (@snd_loc _ _ _ _ _ _ _ (i := 2) rfl rfl (by law_fin)) (@snd_int _ _ _ _ _ _ _ _) (by law_fin)) (@sndb_cons _ _ _ _ _ _ _ _ _ (@snds_ret _ _ _ _ _ _ _ _ (@snd_call0 _ _ _ _ _ _ _ _ _ _ _ (@mkn_nul _ _ _ _) (by law_fin) (by law_fin) (gf_Null _) (by law_fin) (by law_fin)))
      (@sndb_nil _ _ _ _ _)) (@sndb_nil _ _ _ _ _))
      (@sndb_cons _ _ _ _ _ _ _ _ _ (@snds_if _ _ _ _ _ _ _ _ _ _ _ _ (@sndT_cmp _ _ _ _ _ _ _ _ _ _ _ _ cmp_eq (@snd_loc _ _ _ _ _ _ _ (i := 2) rfl rfl (by law_fin)) (@snd_int _ _ _ _ _ _ _ _) (by law_fin)) (@sndb_cons _ _ _ _ _ _ _ _ _ (@snds_asg _ _ _ _ _ _ _ _ _ _ _ rfl rfl (@snd_add _ _ _ _ _ _ _ _ _ _ (@snd_list _ _ _ _ _ _ _ _ (@snds_cons _ _ _ _ _ _ _ _ _ (@snd_call _ _ _ _ _ _ _ _ _ _ _ _ _ _ _ (@mkn_sym _ _ _ _) (by law_fin) (by law_fin) (gf_Symbol _) (by law_fin) (by law_fin) rfl (@snds_cons _ _ _ _ _ _ _ _ _ (@snd_str _ _ _ _ _ _ _ _ _ (by law_fin)) (@snds_nil _ _ _ _ _) (by law_fin)) (by law_fin) (fun _ _ => rfl)) (@snds_nil _ _ _ _ _) (by law_fin))) (@snd_compR _ _ _ _ _ _ _ _ _ _ _ _ _ _ (c := ⟨_, _, (fun L => [(Str.ofString "state", L + 1), (Str.ofString "script", L + 2)])⟩) (by exact ⟨rfl, rfl, rfl, by decide +kernel, by decide +kernel, by decide +kernel, fun _ => rfl, fun _ _ => rfl⟩) (gb_range _) (by law_fin) (by law_fin) (fun _ => rfl) (@snd_call _ _ _ _ _ _ _ _ _ _ _ _ _ _ _ (@s589 w mg mb means) (by law_fin) (by law_fin) (gf_law_simple _) (by law_fin) (by law_fin) rfl (@snds_cons _ _ _ _ _ _ _ _ _ (@snd_locC _ _ _ _ _ _ _ _ (i := 0) rfl rfl (by law_fin) (by law_fin) (by law_fin) (fun _ => rfl)) (@snds_cons _ _ _ _ _ _ _ _ _ (@snd_locC _ _ _ _ _ _ _ _ (i := 1) rfl rfl (by law_fin) (by law_fin) (by law_fin) (fun _ => rfl)) (@snds_nil _ _ _ _ _) (by law_fin)) (by law_fin)) (by law_fin) (fun _ _ => rfl)) (@snd_call _ _ _ _ _ _ _ _ _ _ _ _ _ _ _ (@take_snd _ _ _ _) (by law_fin) (by law_fin) (gf_law_take _) (by law_fin) (by law_fin) rfl (@snds_cons _ _ _ _ _ _ _ _ _ (@snd_loc _ _ _ _ _ _ _ (i := 0) rfl rfl (by law_fin)) (@snds_cons _ _ _ _ _ _ _ _ _ (@snd_int _ _ _ _ _ _ _ _) (@snds_nil _ _ _ _ _) (by law_fin)) (by law_fin)) (by law_fin) (fun _ _ => rfl)))) (.inl (by law_fin)) (fun _ => rfl))
      (@sndb_cons _ _ _ _ _ _ _ _ _ (@snds_ret _ _ _ _ _ _ _ _ (@snd_call _ _ _ _ _ _ _ _ _ _ _ _ _ _ _ (@mkn_cal _ _ _ _) (by law_fin) (by law_fin) (gf_Call _) (by law_fin) (by law_fin) rfl (@snds_cons _ _ _ _ _ _ _ _ _ (@snd_loc _ _ _ _ _ _ _ (i := 3) rfl rfl (by law_fin)) (@snds_cons _ _ _ _ _ _ _ _ _ (@snd_add _ _ _ _ _ _ _ _ _ _ (@snd_list _ _ _ _ _ _ _ _ (@snds_cons _ _ _ _ _ _ _ _ _ (@snd_none _ _ _ _ _ _ _) (@snds_nil _ _ _ _ _) (by law_fin))) (@snd_comp _ _ _ _ _ _ _ _ _ _ _ (c := ⟨_, _, (fun L => [(Str.ofString "state", L + 1)])⟩) (by exact ⟨rfl, rfl, rfl, by decide +kernel, by decide +kernel, by decide +kernel, fun _ => rfl, fun _ _ => rfl⟩) (@snd_sub _ _ _ _ _ _ _ _ _ _ (@snd_list _ _ _ _ _ _ _ _ (@snds_cons _ _ _ _ _ _ _ _ _ (@snd_none _ _ _ _ _ _ _) (@snds_cons _ _ _ _ _ _ _ _ _ (@snd_str _ _ _ _ _ _ _ _ _ (by law_fin)) (@snds_cons _ _ _ _ _ _ _ _ _ (@snd_str _ _ _ _ _ _ _ _ _ (by law_fin)) (@snds_nil _ _ _ _ _) (by law_fin)) (by law_fin)) (by law_fin))) (@snd_call _ _ _ _ _ _ _ _ _ _ _ _ _ _ _ (@take_snd _ _ _ _) (by law_fin) (by law_fin) (gf_law_take _) (by law_fin) (by law_fin) rfl (@snds_cons _ _ _ _ _ _ _ _ _ (@snd_locC _ _ _ _ _ _ _ _ (i := 0) rfl rfl (by law_fin) (by law_fin) (by law_fin) (fun _ => rfl)) (@snds_cons _ _ _ _ _ _ _ _ _ (@snd_int _ _ _ _ _ _ _ _) (@snds_nil _ _ _ _ _) (by law_fin)) (by law_fin)) (by law_fin) (fun _ _ => rfl)) (fun _ _ _ => rfl)) (@snd_slLo _ _ _ _ _ _ _ _ _ _ _ (@snd_loc _ _ _ _ _ _ _ (i := 3) rfl rfl (by law_fin)) (@snd_int _ _ _ _ _ _ _ _) (fun _ _ => rfl)))) (@snds_nil _ _ _ _ _) (by law_fin)) (by law_fin)) (by law_fin) (fun _ _ => rfl)))
      (@sndb_nil _ _ _ _ _))) (@sndb_nil _ _ _ _ _))
      (@sndb_cons _ _ _ _ _ _ _ _ _ (@snds_if _ _ _ _ _ _ _ _ _ _ _ _ (@sndT_cmp _ _ _ _ _ _ _ _ _ _ _ _ cmp_eq (@snd_loc _ _ _ _ _ _ _ (i := 2) rfl rfl (by law_fin)) (@snd_int _ _ _ _ _ _ _ _) (by law_fin)) (@sndb_cons _ _ _ _ _ _ _ _ _ (@snds_asg _ _ _ _ _ _ _ _ _ _ _ rfl rfl (@snd_call _ _ _ _ _ _ _ _ _ _ _ _ _ _ _ (@mkn_env _ _ _ _) (by law_fin) (by law_fin) (gf_Environment _) (by law_fin) (by law_fin) rfl (@snds_cons _ _ _ _ _ _ _ _ _ (@snd_add _ _ _ _ _ _ _ _ _ _ (@snd_int _ _ _ _ _ _ _ _) (@snd_call _ _ _ _ _ _ _ _ _ _ _ _ _ _ _ (@take_snd _ _ _ _) (by law_fin) (by law_fin) (gf_law_take _) (by law_fin) (by law_fin) rfl (@snds_cons _ _ _ _ _ _ _ _ _ (@snd_loc _ _ _ _ _ _ _ (i := 0) rfl rfl (by law_fin)) (@snds_cons _ _ _ _ _ _ _ _ _ (@snd_int _ _ _ _ _ _ _ _) (@snds_nil _ _ _ _ _) (by law_fin)) (by law_fin)) (by law_fin) (fun _ _ => rfl))) (@snds_cons _ _ _ _ _ _ _ _ _ (@snd_none _ _ _ _ _ _ _) (@snds_nil _ _ _ _ _) (by law_fin)) (by law_fin)) (by law_fin) (fun _ _ => rfl)) (.inl (by law_fin)) (fun _ => rfl))
      (@sndb_cons _ _ _ _ _ _ _ _ _ (@snds_forL _ _ _ _ _ _ _ _ _ _ _ _ _ rfl rfl rfl (@snd_slHi _ _ _ _ _ _ _ _ _ _ _ (@snd_list _ _ _ _ _ _ _ _ (@snds_cons _ _ _ _ _ _ _ _ _ (@snd_str _ _ _ _ _ _ _ _ _ (by law_fin)) (@snds_cons _ _ _ _ _ _ _ _ _ (@snd_str _ _ _ _ _ _ _ _ _ (by law_fin)) (@snds_nil _ _ _ _ _) (by law_fin)) (by law_fin))) (@snd_call _ _ _ _ _ _ _ _ _ _ _ _ _ _ _ (@take_snd _ _ _ _) (by law_fin) (by law_fin) (gf_law_take _) (by law_fin) (by law_fin) rfl (@snds_cons _ _ _ _ _ _ _ _ _ (@snd_loc _ _ _ _ _ _ _ (i := 0) rfl rfl (by law_fin)) (@snds_cons _ _ _ _ _ _ _ _ _ (@snd_int _ _ _ _ _ _ _ _) (@snds_nil _ _ _ _ _) (by law_fin)) (by law_fin)) (by law_fin) (fun _ _ => rfl)) (fun _ _ => rfl)) (@sndb_cons _ _ _ _ _ _ _ _ _ (@snds_asgK _ _ _ _ _ _ _ _ _ _ _ _ _ (@snd_call0 _ _ _ _ _ _ _ _ _ _ _ (@mkn_nul _ _ _ _) (by law_fin) (by law_fin) (gf_Null _) (by law_fin) (by law_fin)) (@snd_attr _ _ _ _ _ _ _ _ _ _ (@snd_loc _ _ _ _ _ _ _ (i := 4) rfl rfl (by law_fin)) n_frame (by law_fin)) (@snd_loc _ _ _ _ _ _ _ (i := 5) rfl rfl (by law_fin)) (fun _ => rfl))
      (@sndb_nil _ _ _ _ _)) (.inl (by law_fin)) (fun _ _ => rfl))
      (@sndb_cons _ _ _ _ _ _ _ _ _ (@snds_ret _ _ _ _ _ _ _ _ (@snd_loc _ _ _ _ _ _ _ (i := 4) rfl rfl (by law_fin)))
      (@sndb_nil _ _ _ _ _)))) (@sndb_nil _ _ _ _ _))
      (@sndb_cons _ _ _ _ _ _ _ _ _ (@snds_ret _ _ _ _ _ _ _ _ (@snd_call _ _ _ _ _ _ _ _ _ _ _ _ _ _ _ (@s589 w mg mb means) (by law_fin) (by law_fin) (gf_law_simple _) (by law_fin) (by law_fin) rfl (@snds_cons _ _ _ _ _ _ _ _ _ (@snd_loc _ _ _ _ _ _ _ (i := 0) rfl rfl (by law_fin)) (@snds_cons _ _ _ _ _ _ _ _ _ (@snd_loc _ _ _ _ _ _ _ (i := 1) rfl rfl (by law_fin)) (@snds_nil _ _ _ _ _) (by law_fin)) (by law_fin)) (by law_fin) (fun _ _ => rfl)))
      (@sndb_nil _ _ _ _ _))))))))

end
noncomputable def lapB : Sb := (blk [sAsg 3 (xFn 6 f582 [(xLoc 1), (xLoc 0)]), sTryx (blk [sAsg 4 (xFn 3 f548 [(xLoc 3)])]) 5 (blk [sAsg 4 (xMsg (xLoc 5))]), sAsg 6 (xFn 3 f603 [(xLoc 3)]), sIff (xOr [(xCmp .ne (xIsB (xLoc 4)) (xIsB (xLoc 6))), (xCmp .ne (xLoc 4) (xLoc 6))]) (blk [sRet (xBool false)]) (blk []), sIff (xNot (xFn 5 f627 [(xFn 1 f541 [(xLoc 3)]), (xLoc 3)])) (blk [sRet (xBool false)]) (blk []), sIff (xAnd [(xNot (xIsI (xLoc 3))), (xNot (xFn 5 f648 [(xLoc 3)]))]) (blk [sRet (xBool false)]) (blk [])])
noncomputable abbrev noV : KV := fun _ _ => false
noncomputable def xK (a : AI) : Sx := fun s k _ => k (.int a) s
noncomputable def lapF (F : Sb) : Sb := (blk [sAsg 3 (xFn 6 F [(xLoc 1), (xLoc 0)]), sTryx (blk [sAsg 4 (xFn 3 f548 [(xLoc 3)])]) 5 (blk [sAsg 4 (xMsg (xLoc 5))]), sAsg 6 (xFn 3 f603 [(xLoc 3)]), sIff (xOr [(xCmp .ne (xIsB (xLoc 4)) (xIsB (xLoc 6))), (xCmp .ne (xLoc 4) (xLoc 6))]) (blk [sRet (xBool false)]) (blk []), sIff (xNot (xFn 5 f627 [(xFn 1 f541 [(xLoc 3)]), (xLoc 3)])) (blk [sRet (xBool false)]) (blk []), sIff (xAnd [(xNot (xIsI (xLoc 3))), (xNot (xFn 5 f648 [(xLoc 3)]))]) (blk [sRet (xBool false)]) (blk [])])
noncomputable def f582X (X : Sx) : Sb := (blk [sAsg 2 X, sIff (xCmp .lt (xLoc 2) (xInt 3)) (blk [sRet (xFn 2 f577 [(xLoc 0), (xFn 4 f572 [(xLoc 0), (xLoc 1), (xSub (xList [(xInt 1), (xInt 1), (xInt 0), (xInt 2), (xInt 3)]) (xTake [(xLoc 0), (xInt 5)]))])])]) (blk []), sIff (xOr [(xCmp .eq (xLoc 2) (xInt 3)), (xCmp .eq (xLoc 2) (xInt 4))]) (blk [sAsg 3 (xCompR (xFn 3 f589 [(xLoc 0), (xLoc 1)]) (xTake [(xLoc 0), (xInt 3)])), sRet (xFn 2 f577 [(xLoc 0), (xCls 314 [(xIfe (xCmp .eq (xLoc 2) (xInt 3)) (xStr [108, 105, 115, 116]) (xStr [101, 120, 112, 114, 101, 115, 115, 105, 111, 110])), (xLoc 3)])])]) (blk []), sIff (xCmp .eq (xLoc 2) (xInt 5)) (blk [sRet (xCls 285 [])]) (blk []), sIff (xCmp .eq (xLoc 2) (xInt 6)) (blk [sAsg 3 (xAdd (xList [(xCls 335 [(xStr [102])])]) (xCompR (xFn 3 f589 [(xLoc 0), (xLoc 1)]) (xTake [(xLoc 0), (xInt 3)]))), sRet (xCls 357 [(xLoc 3), (xAdd (xList [xNone]) (xComp (xSub (xList [xNone, (xStr [97]), (xStr [98])]) (xTake [(xLoc 0), (xInt 3)])) (xSlLo (xLoc 3) (xInt 1))))])]) (blk []), sIff (xCmp .eq (xLoc 2) (xInt 7)) (blk [sAsg 4 (xCls 401 [(xAdd (xInt 3) (xTake [(xLoc 0), (xInt 5)])), xNone]), sForL 5 (xSlHi (xList [(xStr [120]), (xStr [121])]) (xTake [(xLoc 0), (xInt 3)])) (blk [sAsgK (xAttr (xLoc 4) 13) (xLoc 5) (xCls 285 [])]), sRet (xLoc 4)]) (blk []), sRet (xFn 3 f589 [(xLoc 0), (xLoc 1)])])
noncomputable def f582Y (X : Sx) : Sb := (blk [sAsg 2 (xK (.one [0, 1, 2])), sIff (xCmp .lt (xLoc 2) (xInt 3)) (blk [sRet (xFn 2 f577 [(xLoc 0), (xFn 4 f572 [(xLoc 0), (xLoc 1), (xSub (xList [(xInt 1), (xInt 1), (xInt 0), (xInt 2), (xInt 3)]) X)])])]) (blk []), sIff (xOr [(xCmp .eq (xLoc 2) (xInt 3)), (xCmp .eq (xLoc 2) (xInt 4))]) (blk [sAsg 3 (xCompR (xFn 3 f589 [(xLoc 0), (xLoc 1)]) (xTake [(xLoc 0), (xInt 3)])), sRet (xFn 2 f577 [(xLoc 0), (xCls 314 [(xIfe (xCmp .eq (xLoc 2) (xInt 3)) (xStr [108, 105, 115, 116]) (xStr [101, 120, 112, 114, 101, 115, 115, 105, 111, 110])), (xLoc 3)])])]) (blk []), sIff (xCmp .eq (xLoc 2) (xInt 5)) (blk [sRet (xCls 285 [])]) (blk []), sIff (xCmp .eq (xLoc 2) (xInt 6)) (blk [sAsg 3 (xAdd (xList [(xCls 335 [(xStr [102])])]) (xCompR (xFn 3 f589 [(xLoc 0), (xLoc 1)]) (xTake [(xLoc 0), (xInt 3)]))), sRet (xCls 357 [(xLoc 3), (xAdd (xList [xNone]) (xComp (xSub (xList [xNone, (xStr [97]), (xStr [98])]) (xTake [(xLoc 0), (xInt 3)])) (xSlLo (xLoc 3) (xInt 1))))])]) (blk []), sIff (xCmp .eq (xLoc 2) (xInt 7)) (blk [sAsg 4 (xCls 401 [(xAdd (xInt 3) (xTake [(xLoc 0), (xInt 5)])), xNone]), sForL 5 (xSlHi (xList [(xStr [120]), (xStr [121])]) (xTake [(xLoc 0), (xInt 3)])) (blk [sAsgK (xAttr (xLoc 4) 13) (xLoc 5) (xCls 285 [])]), sRet (xLoc 4)]) (blk []), sRet (xFn 3 f589 [(xLoc 0), (xLoc 1)])])
noncomputable def lapBa (a : AI) : Bool := lapF (f582X (xK a)) stLaw keepsL noV noV
noncomputable def lapBb (b : AI) : Bool := lapF (f582Y (xK b)) stLaw keepsL noV noV
noncomputable def stVal : St := ⟨[some (.obj 1), some (.opq 0), none, none, none, none], .none, [(1, .state)], 2⟩
theorem lapF_eq : ∃ A1 A2 A3, ∀ F : Sb, lapF F stLaw keepsL noV noV = F stVal A1 A2 A3 := ⟨_, _, _, fun F => rfl⟩
theorem f582X_eq (A1 : KS) (A2 A3 : KV) : ∃ K, ∀ X : Sx, f582X X stVal A1 A2 A3 = X stVal K A3 := ⟨_, fun X => rfl⟩
theorem f582Y_eq (A1 : KS) (A2 A3 : KV) : ∃ s K kr, (∀ X : Sx, f582Y X stVal A1 A2 A3 = X s K kr) ∧ s.get 0 = some (.obj 1) ∧ look 1 s.objs = some .state := ⟨_, _, _, fun X => rfl, rfl, rfl⟩
theorem xTake_at {b : Int} {s : St} {K kr : KV} (h0 : s.get 0 = some (.obj 1)) (h1 : look 1 s.objs = some .state) : xTake [(xLoc 0), (xInt b)] s K kr = take b s K := by
  show onO (s.get 0) (fun v => takeB [v, .int (.lit b)] s K kr) = _
  rw [h0]
  show onObj (.obj 1) s (fun o => match o with | .state => take b s K | _ => false) = _
  unfold onObj
  dsimp only
  rw [h1]
theorem lap_sp : lapB stLaw keepsL noV noV = cases lapBa (parts 9) := by
  obtain ⟨A1, A2, A3, hA⟩ := lapF_eq
  obtain ⟨K, hK⟩ := f582X_eq A1 A2 A3
  have e : lapBa = fun a => K (.int a) stVal := by
    funext a
    show lapF (f582X (xK a)) stLaw keepsL noV noV = _
    rw [hA, hK]; rfl
  show lapF (f582X (xTake [(xLoc 0), (xInt 9)])) stLaw keepsL noV noV = _
  rw [hA, hK, xTake_at rfl rfl, e]; rfl
theorem lap_sq : lapBa (.one [0, 1, 2]) = cases lapBb (parts 5) := by
  obtain ⟨A1, A2, A3, hA⟩ := lapF_eq
  obtain ⟨s, K, kr, hK, h0, h1⟩ := f582Y_eq A1 A2 A3
  have e : lapBb = fun a => K (.int a) s := by
    funext a
    show lapF (f582Y (xK a)) stLaw keepsL noV noV = _
    rw [hA, hK]; rfl
  show lapF (f582Y (xTake [(xLoc 0), (xInt 5)])) stLaw keepsL noV noV = _
  rw [hA, hK, xTake_at h0 h1, e]; rfl
set_option maxHeartbeats 0 in
theorem lap_a3 : lapBa (.lit 3) = true := by decide +kernel
set_option maxHeartbeats 0 in
theorem lap_a4 : lapBa (.lit 4) = true := by decide +kernel
set_option maxHeartbeats 0 in
theorem lap_a5 : lapBa (.lit 5) = true := by decide +kernel
set_option maxHeartbeats 0 in
theorem lap_a7 : lapBa (.lit 7) = true := by decide +kernel
set_option maxHeartbeats 0 in
theorem lap_a8 : lapBa (.lit 8) = true := by decide +kernel
set_option maxHeartbeats 0 in
theorem lap_b0 : lapBb (.one [0, 1]) = true := by decide +kernel
set_option maxHeartbeats 0 in
theorem lap_b1 : lapBb (.lit 2) = true := by decide +kernel
set_option maxHeartbeats 0 in
theorem lap_b2 : lapBb (.lit 3) = true := by decide +kernel
set_option maxHeartbeats 0 in
theorem lap_b3 : lapBb (.lit 4) = true := by decide +kernel
theorem cases_cons {f : AI → Bool} {a : AI} {r : List AI} (h : f a = true) (hr : cases f r = true) : cases f (a :: r) = true := by unfold cases; rw [h]; exact hr
noncomputable def f582Z (X : Sx) : Sb := (blk [sAsg 2 (xK (.lit 6)), sIff (xCmp .lt (xLoc 2) (xInt 3)) (blk [sRet (xFn 2 f577 [(xLoc 0), (xFn 4 f572 [(xLoc 0), (xLoc 1), (xSub (xList [(xInt 1), (xInt 1), (xInt 0), (xInt 2), (xInt 3)]) (xTake [(xLoc 0), (xInt 5)]))])])]) (blk []), sIff (xOr [(xCmp .eq (xLoc 2) (xInt 3)), (xCmp .eq (xLoc 2) (xInt 4))]) (blk [sAsg 3 (xCompR (xFn 3 f589 [(xLoc 0), (xLoc 1)]) (xTake [(xLoc 0), (xInt 3)])), sRet (xFn 2 f577 [(xLoc 0), (xCls 314 [(xIfe (xCmp .eq (xLoc 2) (xInt 3)) (xStr [108, 105, 115, 116]) (xStr [101, 120, 112, 114, 101, 115, 115, 105, 111, 110])), (xLoc 3)])])]) (blk []), sIff (xCmp .eq (xLoc 2) (xInt 5)) (blk [sRet (xCls 285 [])]) (blk []), sIff (xCmp .eq (xLoc 2) (xInt 6)) (blk [sAsg 3 (xAdd (xList [(xCls 335 [(xStr [102])])]) (xCompR (xFn 3 f589 [(xLoc 0), (xLoc 1)]) X)), sRet (xCls 357 [(xLoc 3), (xAdd (xList [xNone]) (xComp (xSub (xList [xNone, (xStr [97]), (xStr [98])]) (xTake [(xLoc 0), (xInt 3)])) (xSlLo (xLoc 3) (xInt 1))))])]) (blk []), sIff (xCmp .eq (xLoc 2) (xInt 7)) (blk [sAsg 4 (xCls 401 [(xAdd (xInt 3) (xTake [(xLoc 0), (xInt 5)])), xNone]), sForL 5 (xSlHi (xList [(xStr [120]), (xStr [121])]) (xTake [(xLoc 0), (xInt 3)])) (blk [sAsgK (xAttr (xLoc 4) 13) (xLoc 5) (xCls 285 [])]), sRet (xLoc 4)]) (blk []), sRet (xFn 3 f589 [(xLoc 0), (xLoc 1)])])
noncomputable def f589X (X : Sx) : Sb := (blk [sAsg 2 X, sIff (xCmp .lt (xLoc 2) (xInt 2)) (blk [sRet (xCls 314 [(xStr [105, 110, 116, 101, 103, 101, 114]), (xList [(xTake [(xLoc 0), (xInt 660)])])])]) (blk []), sIff (xCmp .eq (xLoc 2) (xInt 2)) (blk [sRet (xCls 335 [(xAdd (xStr [115]) (xStrf (xTake [(xLoc 0), (xInt 660)])))])]) (blk []), sIff (xCmp .eq (xLoc 2) (xInt 3)) (blk [sRet (xCls 314 [(xStr [99, 104, 97, 114, 97, 99, 116, 101, 114]), (xMul (xList [(xAdd (xStr [119]) (xStrf (xTake [(xLoc 0), (xInt 660)])))]) (xAdd (xInt 1) (xTake [(xLoc 0), (xInt 2)])))])]) (blk []), sRet (xCls 379 [(xList []), (xCls 335 [(xAdd (xStr [98]) (xStrf (xTake [(xLoc 0), (xInt 660)])))]), (xCls 401 [(xInt 1), xNone])])])
noncomputable def xCompQ (e1 e : Sx) : Sx := fun s k _ => e1 (setCv (.int (.lit (Int.ofNat 0))) s) (fun y s => compsR e 1 1 [y] s k) noR
noncomputable def f582W (X : Sx) : Sb := (blk [sAsg 2 (xK (.lit 6)), sIff (xCmp .lt (xLoc 2) (xInt 3)) (blk [sRet (xFn 2 f577 [(xLoc 0), (xFn 4 f572 [(xLoc 0), (xLoc 1), (xSub (xList [(xInt 1), (xInt 1), (xInt 0), (xInt 2), (xInt 3)]) (xTake [(xLoc 0), (xInt 5)]))])])]) (blk []), sIff (xOr [(xCmp .eq (xLoc 2) (xInt 3)), (xCmp .eq (xLoc 2) (xInt 4))]) (blk [sAsg 3 (xCompR (xFn 3 f589 [(xLoc 0), (xLoc 1)]) (xTake [(xLoc 0), (xInt 3)])), sRet (xFn 2 f577 [(xLoc 0), (xCls 314 [(xIfe (xCmp .eq (xLoc 2) (xInt 3)) (xStr [108, 105, 115, 116]) (xStr [101, 120, 112, 114, 101, 115, 115, 105, 111, 110])), (xLoc 3)])])]) (blk []), sIff (xCmp .eq (xLoc 2) (xInt 5)) (blk [sRet (xCls 285 [])]) (blk []), sIff (xCmp .eq (xLoc 2) (xInt 6)) (blk [sAsg 3 (xAdd (xList [(xCls 335 [(xStr [102])])]) (xCompQ (xFn 3 (f589X X) [(xLoc 0), (xLoc 1)]) (xFn 3 f589 [(xLoc 0), (xLoc 1)]))), sRet (xCls 357 [(xLoc 3), (xAdd (xList [xNone]) (xComp (xSub (xList [xNone, (xStr [97]), (xStr [98])]) (xTake [(xLoc 0), (xInt 3)])) (xSlLo (xLoc 3) (xInt 1))))])]) (blk []), sIff (xCmp .eq (xLoc 2) (xInt 7)) (blk [sAsg 4 (xCls 401 [(xAdd (xInt 3) (xTake [(xLoc 0), (xInt 5)])), xNone]), sForL 5 (xSlHi (xList [(xStr [120]), (xStr [121])]) (xTake [(xLoc 0), (xInt 3)])) (blk [sAsgK (xAttr (xLoc 4) 13) (xLoc 5) (xCls 285 [])]), sRet (xLoc 4)]) (blk []), sRet (xFn 3 f589 [(xLoc 0), (xLoc 1)])])
noncomputable def lapBc (b : AI) : Bool := lapF (f582Z (xK b)) stLaw keepsL noV noV
noncomputable def lapBd (b : AI) : Bool := lapF (f582W (xK b)) stLaw keepsL noV noV
theorem f582Z_eq (A1 : KS) (A2 A3 : KV) : ∃ s K kr, (∀ X : Sx, f582Z X stVal A1 A2 A3 = X s K kr) ∧ s.get 0 = some (.obj 1) ∧ look 1 s.objs = some .state ∧ s.loc.length = 6 := ⟨_, _, _, fun X => rfl, rfl, rfl, rfl⟩
theorem f582W_eq (A1 : KS) (A2 A3 : KV) : ∃ s K kr, (∀ X : Sx, f582W X stVal A1 A2 A3 = X s K kr) ∧ s.get 0 = some (.obj 1) ∧ look 1 s.objs = some .state := ⟨_, _, _, fun X => rfl, rfl, rfl⟩
theorem take_three {s : St} {K : KV} (h : s.loc.length = 6) : take 3 s K = cases (fun a => K (.int a) s) [.lit 0, .lit 1, .lit 2] := by
  show (match s.loc.length with | 2 => _ | _ => _) = _
  rw [h]; rfl
theorem lap_sr : lapBa (.lit 6) = cases lapBc [.lit 0, .lit 1, .lit 2] := by
  obtain ⟨A1, A2, A3, hA⟩ := lapF_eq
  obtain ⟨s, K, kr, hK, h0, h1, h2⟩ := f582Z_eq A1 A2 A3
  have e : lapBc = fun a => K (.int a) s := by
    funext a
    show lapF (f582Z (xK a)) stLaw keepsL noV noV = _
    rw [hA, hK]; rfl
  show lapF (f582Z (xTake [(xLoc 0), (xInt 3)])) stLaw keepsL noV noV = _
  rw [hA, hK, xTake_at h0 h1, e, take_three h2]
theorem lap_st : lapBc (.lit 2) = cases lapBd (parts 5) := by
  obtain ⟨A1, A2, A3, hA⟩ := lapF_eq
  obtain ⟨s, K, kr, hK, h0, h1⟩ := f582W_eq A1 A2 A3
  have e : lapBd = fun a => K (.int a) s := by
    funext a
    show lapF (f582W (xK a)) stLaw keepsL noV noV = _
    rw [hA, hK]; rfl
  show lapF (f582W (xTake [(xLoc 0), (xInt 5)])) stLaw keepsL noV noV = _
  rw [hA, hK, xTake_at h0 h1, e]; rfl
set_option maxHeartbeats 0 in
theorem lap_c0 : lapBc (.lit 0) = true := by decide +kernel
set_option maxHeartbeats 0 in
theorem lap_c1 : lapBc (.lit 1) = true := by decide +kernel
set_option maxHeartbeats 0 in
theorem lap_d0 : lapBd (.one [0, 1]) = true := by decide +kernel
set_option maxHeartbeats 0 in
theorem lap_d1 : lapBd (.lit 2) = true := by decide +kernel
set_option maxHeartbeats 0 in
theorem lap_d2 : lapBd (.lit 3) = true := by decide +kernel
set_option maxHeartbeats 0 in
theorem lap_d3 : lapBd (.lit 4) = true := by decide +kernel
theorem lap_two : lapBc (.lit 2) = true := lap_st.trans (cases_cons lap_d0 (cases_cons lap_d1 (cases_cons lap_d2 (cases_cons lap_d3 rfl))))
theorem lap_six : lapBa (.lit 6) = true := lap_sr.trans (cases_cons lap_c0 (cases_cons lap_c1 (cases_cons lap_two rfl)))
theorem lap_one : lapBa (.one [0, 1, 2]) = true := lap_sq.trans (cases_cons lap_b0 (cases_cons lap_b1 (cases_cons lap_b2 (cases_cons lap_b3 rfl))))
theorem lap_ok : lapB stLaw keepsL (fun _ _ => false) (fun _ _ => false) = true := lap_sp.trans (cases_cons lap_one (cases_cons lap_a3 (cases_cons lap_a4 (cases_cons lap_a5 (cases_cons lap_six (cases_cons lap_a7 (cases_cons lap_a8 rfl)))))))
noncomputable abbrev lawNs : List Str := [Str.ofString "script", Str.ofString "state", Str.ofString "law_lap", Str.ofString "v", Str.ofString "found", Str.ofString "fault", Str.ofString "told"]
noncomputable def stL0 : St := ⟨[some (.opq 0), none, none, none, none, none, none], .none, [], 1⟩
noncomputable def SndL (w : World) (mg mb : Str → Option Value) (means : ExcName → Option Value) (C : Cx) (es : List PySem.Stmt) : Prop :=
  ∀ (D : Dy) (r : Va) (h : Heap) (t : Nat), Good w mg mb means C D → D.cm = none → Inv w C D r stL0 h →
    wpAny (model PG w) (C.A D) (execs es (C.env D)) (fun f s' => f = .ret (.bool true) ∧ ∃ h' t', s' = ⟨h', D.gs, D.d, t', D.os⟩ ∧ ∀ b o, D.base.get? b = some o → h'.get? b = some o) (fun _ _ => False) ⟨h, D.gs, D.d, t, D.os⟩
section
variable {w : World} {mg mb : Str → Option Value} {means : ExcName → Option Value} {C : Cx}
theorem law_parts {s1 s2 s3 : PySem.Stmt} (h1 : SndS w mg mb means C (sAsg 1 (fun s k kr => evs [xLoc 0] s (fun vs s => drawsB vs s k kr) kr)) s1)
    (h2 : ∀ (D : Dy) (r : Va) (h : Heap) (t : Nat) (Q : Flow → Shared → Prop) (E : Value → Shared → Prop), Good w mg mb means C D → D.cm = none → Inv w C D r stLaw h → (∀ r' h' t', Inv w C D r' stLaw h' → Q .next ⟨h', D.gs, D.d, t', D.os⟩) → wpAny (model PG w) (C.A D) (exec s2 (C.env D)) Q E ⟨h, D.gs, D.d, t, D.os⟩)
    (h3 : SndS w mg mb means C (sRet (xBool true)) s3) : SndL w mg mb means C [s1, s2, s3] := by
  intro D r h t G hcm I
  refine wpAny_execs_cons (h1 D r stL0 h t keepsL (fun _ _ => false) (fun _ _ => false) _ _ G rfl I ⟨fun r' s' h' t' l hk' I' => ?_, fun _ _ _ _ _ _ _ hf => by cases hf⟩ (fun _ _ _ _ _ _ _ hf => by cases hf))
  obtain ⟨r₂, I₂⟩ := forget I' hk' hcm
  refine wpAny_execs_cons (h2 D r₂ h' t' _ _ G hcm I₂ fun r₃ h₃ t₃ I₃ => ?_)
  refine wpAny_execs_cons (h3 D r₃ stLaw h₃ t₃ (fun _ => false) (fun v _ => match v with | .bool true => true | _ => false) (fun _ _ => false) _ _ G rfl I₃ ⟨fun _ _ _ _ _ hf => by (cases hf), fun r₄ v s₄ v' h₄ t₄ l hk₄ I₄ hv => ?_⟩ (fun _ _ _ _ _ _ _ hf => by cases hf))
  dsimp only at hk₄
  split at hk₄
  · have hv : v' = .bool true := hv
    refine Inv.el I₄ fun g₄ m₄ cells₄ news₄ Gg₄ F₄ N₄ Co₄ => ?_
    exact ⟨by rw [hv], h₄, t₄, rfl, fun b o e => F₄.keep b o (Gg₄.B.stays b o e)⟩
  · cases hk₄
theorem law_enter {qual : Str} {scope : Scope} {es : List PySem.Stmt} {lev : Nat} (hb : SndL w mg mb means ⟨lawNs, qual, scope, none, false, lev⟩ es) (hns : lawNs.Nodup) (hk : scope.kind = .function) (hnc : ∀ L, cellsFrom (L + 1) scope.names [] = []) (hloc : scope.names.lookup (Str.ofString "script") = some .local)
    {sc : Addr} {svs : List Value} {sns : List Int} (SC : ScOk svs sns) {h₀ h : Heap} {L a : Addr} {ccd : Value} {dp un : Nat} {gd : Option (List Code)} {gs : Array GenState} {d : Drawn} {t : Nat} {os : OsState} {A₀ : Around} {m : Str → Option Value}
    (hm : m (Str.ofString "script") = some (.ref sc)) (B : Below A₀ h₀ [] h₀) (F : Fr h₀ L h m) (X : (hd.heap_1 w.params).In h₀) (T : TopN mg mb means h₀) (hl : h₀.IsList sc svs.toArray) (hdp : dp + lev < recursionLimit) (hun : un + 16 * lev < cLine) :
    wpAny (model PG w) { handled := none, depth := dp, frames := some [envOf qual scope L a ccd], guards := gd, units := un } (execs es (envOf qual scope L a ccd)) (fun f s' => f = .ret (.bool true) ∧ ∃ h' t', s' = ⟨h', gs, d, t', os⟩ ∧ ∀ b o, h₀.get? b = some o → h'.get? b = some o) (fun _ _ => False) ⟨h, gs, d, t, os⟩ := by
  let C : Cx := ⟨lawNs, qual, scope, none, false, lev⟩
  let D : Dy := { dp := dp, un := un, gd := gd, L := L, a := a, ccd := ccd, outer := [], A₀ := A₀, base := h₀, g := h₀, gs := gs, d := d, os := os, ext := [], cm := none, hd := none, sa := sc }
  have G : Good w mg mb means C D := ⟨hk, hns, hdp, hun, X, T, fun _ => rfl, trivial, ⟨svs, sns, SC, hl⟩⟩
  have hcl : clF C D = [] := hnc L
  have I : Inv w C D (fun i => if i = 0 then some (.val (.ref sc)) else none) stL0 h := by
    refine ⟨h₀, m, [], [], ⟨KtsTurn.refl, B, (by intro b hb; cases hb)⟩, F, (by intro p hp; cases hp), ⟨List.nodup_nil, rfl, fun i hi => if_neg (Nat.ne_of_gt hi), fun i v hi => ?_, fun _ e => (by cases e), fun x c hx => ?_, rfl⟩⟩
    · match i, hi with
      | 0, hi =>
        cases hi
        exact ⟨Str.ofString "script", .ref sc, rfl, rfl, .inl ⟨hloc, hm⟩⟩
      | 1, hi => cases hi
      | 2, hi => cases hi
      | 3, hi => cases hi
      | 4, hi => cases hi
      | 5, hi => cases hi
      | 6, hi => cases hi
      | n + 7, hi => cases hi
    · rw [hcl] at hx; cases hx
  have := hb D _ h t G rfl I
  have e : fenv C D = envOf qual scope L a ccd := by
    show envX qual scope L a ccd (clF C D) = _
    rw [hcl]; rfl
  have e2 : C.env D = envOf qual scope L a ccd := e
  have e3 : C.A D = { handled := none, depth := dp, frames := some [envOf qual scope L a ccd], guards := gd, units := un } := by
    unfold Cx.A
    rw [e]
  rw [e2, e3] at this
  exact this
end
end
end Mine
open Mine
local macro_rules | `(tactic| k_qdec) => `(tactic| first | exact Mine.nm_ok | exact Mine.im_none)
set_option maxHeartbeats 40000000 in
theorem PySem.Challenge.cw_nz0498_01_holds : PySem.Challenge.rw_nz0498_01.Holds := by
  refine Mine.hd ?_
  k_go0
  rename IntsAre _ _ => hI
  have hS : ScOk _ _ := ⟨hI, by omega, by assumption⟩
  rename Fr _ _ _ _ => hF
  rename _ = (#[] : Array GenState) => hG
  refine wpAny_mono (law_enter (lev := 12) (A₀ := callerA) ?hb (by decide +kernel) rfl (fun _ => rfl) rfl hS ?hm ?B hF (by assumption) (by assumption) (by assumption) (by decide +kernel) (by decide +kernel)) (fun f s' h => ?q) (fun _ _ h => h.elim)
  case hm => rfl
  case B => assumption
  case q =>
    obtain ⟨rfl, h', t', rfl, hk⟩ := h
    exact ⟨.inl ⟨.bool true, .bool true, [], rfl, fun _ => rfl, .bool true, by kernel_rfl, fun _ => ⟨List.nodup_nil, fun _ h => nomatch h⟩⟩, hk, rfl, hG⟩
  case hb =>
    exact law_parts (@snds_asg _ _ _ _ _ _ _ _ _ _ _ rfl rfl (@snd_call _ _ _ _ _ _ _ _ _ _ _ _ _ _ _ (@draws_snd _ _ _ _) (by first | rfl | decide +kernel | (intros; rfl)) (by first | rfl | decide +kernel | (intros; rfl)) (gf_law_draws _) (by first | rfl | decide +kernel | (intros; rfl)) (by first | rfl | decide +kernel | (intros; rfl)) rfl (@snds_cons _ _ _ _ _ _ _ _ _ (@snd_loc _ _ _ _ _ _ _ (i := 0) rfl rfl (by first | rfl | decide +kernel | (intros; rfl))) (@snds_nil _ _ _ _ _) (by first | rfl | decide +kernel | (intros; rfl))) (by first | rfl | decide +kernel | (intros; rfl)) (fun _ _ => rfl)) (.inl (by first | rfl | decide +kernel | (intros; rfl))) (fun _ => rfl)) (fun D r h t Q E G hcm I fq => law_for (n := 4) rfl rfl (gb_range _) (by first | rfl | decide +kernel | (intros; rfl)) (by first | rfl | decide +kernel | (intros; rfl)) (fun _ => rfl) (by decide) rfl (@snd_int _ _ _ _ _ _ _ _) (show SndB _ _ _ _ _ lapB _ from (@sndb_cons _ _ _ _ _ _ _ _ _ (@snds_asg _ _ _ _ _ _ _ _ _ _ _ rfl rfl (@snd_call _ _ _ _ _ _ _ _ _ _ _ _ _ _ _ (@s582 _ _ _ _) (by first | rfl | decide +kernel | (intros; rfl)) (by first | rfl | decide +kernel | (intros; rfl)) (gf_law_value _) (by first | rfl | decide +kernel | (intros; rfl)) (by first | rfl | decide +kernel | (intros; rfl)) rfl (@snds_cons _ _ _ _ _ _ _ _ _ (@snd_loc _ _ _ _ _ _ _ (i := 1) rfl rfl (by first | rfl | decide +kernel | (intros; rfl))) (@snds_cons _ _ _ _ _ _ _ _ _ (@snd_loc _ _ _ _ _ _ _ (i := 0) rfl rfl (by first | rfl | decide +kernel | (intros; rfl))) (@snds_nil _ _ _ _ _) (by first | rfl | decide +kernel | (intros; rfl))) (by first | rfl | decide +kernel | (intros; rfl))) (by first | rfl | decide +kernel | (intros; rfl)) (fun _ _ => rfl)) (.inl (by first | rfl | decide +kernel | (intros; rfl))) (fun _ => rfl))       (@sndb_cons _ _ _ _ _ _ _ _ _ (@snds_try _ _ _ _ _ _ _ _ _ _ _ _ _ _ _ rfl rfl rfl (by first | rfl | decide +kernel | (intros; rfl)) (@sndb_cons _ _ _ _ _ _ _ _ _ (@snds_asg _ _ _ _ _ _ _ _ _ _ _ rfl rfl (@snd_call _ _ _ _ _ _ _ _ _ _ _ _ _ _ _ (@s548 _ _ _ _) (by first | rfl | decide +kernel | (intros; rfl)) (by first | rfl | decide +kernel | (intros; rfl)) (gf_condition _) (by first | rfl | decide +kernel | (intros; rfl)) (by first | rfl | decide +kernel | (intros; rfl)) rfl (@snds_cons _ _ _ _ _ _ _ _ _ (@snd_loc _ _ _ _ _ _ _ (i := 3) rfl rfl (by first | rfl | decide +kernel | (intros; rfl))) (@snds_nil _ _ _ _ _) (by first | rfl | decide +kernel | (intros; rfl))) (by first | rfl | decide +kernel | (intros; rfl)) (fun _ _ => rfl)) (.inl (by first | rfl | decide +kernel | (intros; rfl))) (fun _ => rfl))       (@sndb_nil _ _ _ _ _)) (@sndb_cons _ _ _ _ _ _ _ _ _ (@snds_asg _ _ _ _ _ _ _ _ _ _ _ rfl rfl (@snd_msg _ _ _ _ _ _ _ _ (@snd_loc _ _ _ _ _ _ _ (i := 5) rfl rfl (by first | rfl | decide +kernel | (intros; rfl))) (by first | rfl | decide +kernel | (intros; rfl))) (.inl (by first | rfl | decide +kernel | (intros; rfl))) (fun _ => rfl))       (@sndb_nil _ _ _ _ _)) (by first | rfl | decide +kernel | (intros; rfl)))       (@sndb_cons _ _ _ _ _ _ _ _ _ (@snds_asg _ _ _ _ _ _ _ _ _ _ _ rfl rfl (@snd_call _ _ _ _ _ _ _ _ _ _ _ _ _ _ _ (@s603 _ _ _ _) (by first | rfl | decide +kernel | (intros; rfl)) (by first | rfl | decide +kernel | (intros; rfl)) (gf_law_told _) (by first | rfl | decide +kernel | (intros; rfl)) (by first | rfl | decide +kernel | (intros; rfl)) rfl (@snds_cons _ _ _ _ _ _ _ _ _ (@snd_loc _ _ _ _ _ _ _ (i := 3) rfl rfl (by first | rfl | decide +kernel | (intros; rfl))) (@snds_nil _ _ _ _ _) (by first | rfl | decide +kernel | (intros; rfl))) (by first | rfl | decide +kernel | (intros; rfl)) (fun _ _ => rfl)) (.inl (by first | rfl | decide +kernel | (intros; rfl))) (fun _ => rfl))       (@sndb_cons _ _ _ _ _ _ _ _ _ (@snds_if _ _ _ _ _ _ _ _ _ _ _ _ (@sndT_or _ _ _ _ _ _ _ _ _ _ _ (@sndT_cmp _ _ _ _ _ _ _ _ _ _ _ _ cmp_ne (@snd_isB _ _ _ _ _ _ _ _ _ _ _ _ (gb_isinstance _) (gb_bool _) (by first | rfl | decide +kernel | (intros; rfl)) (by first | rfl | decide +kernel | (intros; rfl)) (by first | rfl | decide +kernel | (intros; rfl)) (by first | rfl | decide +kernel | (intros; rfl)) (@snd_loc _ _ _ _ _ _ _ (i := 4) rfl rfl (by first | rfl | decide +kernel | (intros; rfl))) (fun _ => rfl)) (@snd_isB _ _ _ _ _ _ _ _ _ _ _ _ (gb_isinstance _) (gb_bool _) (by first | rfl | decide +kernel | (intros; rfl)) (by first | rfl | decide +kernel | (intros; rfl)) (by first | rfl | decide +kernel | (intros; rfl)) (by first | rfl | decide +kernel | (intros; rfl)) (@snd_loc _ _ _ _ _ _ _ (i := 6) rfl rfl (by first | rfl | decide +kernel | (intros; rfl))) (fun _ => rfl)) (by first | rfl | decide +kernel | (intros; rfl))) (@sndT_or1 _ _ _ _ _ _ _ _ (@sndT_cmp _ _ _ _ _ _ _ _ _ _ _ _ cmp_ne (@snd_loc _ _ _ _ _ _ _ (i := 4) rfl rfl (by first | rfl | decide +kernel | (intros; rfl))) (@snd_loc _ _ _ _ _ _ _ (i := 6) rfl rfl (by first | rfl | decide +kernel | (intros; rfl))) (by first | rfl | decide +kernel | (intros; rfl))))) (@sndb_cons _ _ _ _ _ _ _ _ _ (@snds_ret _ _ _ _ _ _ _ _ (@snd_bool _ _ _ _ _ _ _ _))       (@sndb_nil _ _ _ _ _)) (@sndb_nil _ _ _ _ _))       (@sndb_cons _ _ _ _ _ _ _ _ _ (@snds_if _ _ _ _ _ _ _ _ _ _ _ _ (@sndT_not _ _ _ _ _ _ _ _ (@sndT_plain _ _ _ _ _ _ _ (@snd_call _ _ _ _ _ _ _ _ _ _ _ _ _ _ _ (@s627 _ _ _ _) (by first | rfl | decide +kernel | (intros; rfl)) (by first | rfl | decide +kernel | (intros; rfl)) (gf_law_list_right _) (by first | rfl | decide +kernel | (intros; rfl)) (by first | rfl | decide +kernel | (intros; rfl)) rfl (@snds_cons _ _ _ _ _ _ _ _ _ (@snd_call _ _ _ _ _ _ _ _ _ _ _ _ _ _ _ (@s541 _ _ _ _) (by first | rfl | decide +kernel | (intros; rfl)) (by first | rfl | decide +kernel | (intros; rfl)) (gf_as_list _) (by first | rfl | decide +kernel | (intros; rfl)) (by first | rfl | decide +kernel | (intros; rfl)) rfl (@snds_cons _ _ _ _ _ _ _ _ _ (@snd_loc _ _ _ _ _ _ _ (i := 3) rfl rfl (by first | rfl | decide +kernel | (intros; rfl))) (@snds_nil _ _ _ _ _) (by first | rfl | decide +kernel | (intros; rfl))) (by first | rfl | decide +kernel | (intros; rfl)) (fun _ _ => rfl)) (@snds_cons _ _ _ _ _ _ _ _ _ (@snd_loc _ _ _ _ _ _ _ (i := 3) rfl rfl (by first | rfl | decide +kernel | (intros; rfl))) (@snds_nil _ _ _ _ _) (by first | rfl | decide +kernel | (intros; rfl))) (by first | rfl | decide +kernel | (intros; rfl))) (by first | rfl | decide +kernel | (intros; rfl)) (fun _ _ => rfl)) (fun _ _ => rfl))) (@sndb_cons _ _ _ _ _ _ _ _ _ (@snds_ret _ _ _ _ _ _ _ _ (@snd_bool _ _ _ _ _ _ _ _))       (@sndb_nil _ _ _ _ _)) (@sndb_nil _ _ _ _ _))       (@sndb_cons _ _ _ _ _ _ _ _ _ (@snds_if _ _ _ _ _ _ _ _ _ _ _ _ (@sndT_and _ _ _ _ _ _ _ _ _ _ _ (@sndT_not _ _ _ _ _ _ _ _ (@sndT_plain _ _ _ _ _ _ _ (@snd_isI _ _ _ _ _ _ _ _ _ _ _ _ (gb_isinstance _) (gf_Vector _) (by first | rfl | decide +kernel | (intros; rfl)) (by first | rfl | decide +kernel | (intros; rfl)) (by first | rfl | decide +kernel | (intros; rfl)) (by first | rfl | decide +kernel | (intros; rfl)) (@snd_loc _ _ _ _ _ _ _ (i := 3) rfl rfl (by first | rfl | decide +kernel | (intros; rfl))) (fun _ => rfl) (fun _ => rfl)) (fun _ _ => rfl))) (@sndT_and1 _ _ _ _ _ _ _ _ (@sndT_not _ _ _ _ _ _ _ _ (@sndT_plain _ _ _ _ _ _ _ (@snd_call _ _ _ _ _ _ _ _ _ _ _ _ _ _ _ (@s648 _ _ _ _) (by first | rfl | decide +kernel | (intros; rfl)) (by first | rfl | decide +kernel | (intros; rfl)) (gf_law_kinds_right _) (by first | rfl | decide +kernel | (intros; rfl)) (by first | rfl | decide +kernel | (intros; rfl)) rfl (@snds_cons _ _ _ _ _ _ _ _ _ (@snd_loc _ _ _ _ _ _ _ (i := 3) rfl rfl (by first | rfl | decide +kernel | (intros; rfl))) (@snds_nil _ _ _ _ _) (by first | rfl | decide +kernel | (intros; rfl))) (by first | rfl | decide +kernel | (intros; rfl)) (fun _ _ => rfl)) (fun _ _ => rfl))))) (@sndb_cons _ _ _ _ _ _ _ _ _ (@snds_ret _ _ _ _ _ _ _ _ (@snd_bool _ _ _ _ _ _ _ _))       (@sndb_nil _ _ _ _ _)) (@sndb_nil _ _ _ _ _))       (@sndb_nil _ _ _ _ _)))))))) lap_ok (.inl (by first | rfl | decide +kernel | (intros; rfl))) (fun _ _ => rfl) G hcm I fq) (@snds_ret _ _ _ _ _ _ _ _ (@snd_bool _ _ _ _ _ _ _ _))
