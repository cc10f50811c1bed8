import PyProof.Rows.All
import Wide.All
import OpenK.AllK
import Wide.FinOn
import Lean
import PySem.Challenge.RW_qz0017_01
set_option Elab.async false
set_option maxRecDepth 100000
set_option maxHeartbeats 4000000
section
open PySem PySem.W PySem.Calls PyProof.Rows
namespace Mine
noncomputable section
/-! the program's own parts, by projection -/
abbrev pw : Program := PySem.Challenge.pw_qz0017_01
def topAt (i : Nat) : Stmt := (pw.main.body[i]?).getD (.Pass default)
def metAt (i j : Nat) : Stmt := match topAt i with | .ClassDef _ _ _ b _ _ _ _ _ _ _ => (b[j]?).getD (.Pass default) | _ => .Pass default
def fPar : Stmt → Arguments | .FunctionDef _ a _ _ _ _ _ _ _ _ => a | _ => default
def fBod : Stmt → List Stmt | .FunctionDef _ _ b _ _ _ _ _ _ _ => b | _ => []
def fSco : Stmt → Scope | .FunctionDef _ _ _ _ _ _ s _ _ _ => s | _ => default
def fnO (st : Stmt) (name qual : Str) (pm cd : Value) : Obj :=
  { cls := .type "function", data := .func { name, qualname := qual, params := fPar st, body := .stmts (fBod st), scope := fSco st, globals := 3, closure := [], defaults := .none, kwdefaults := .none, pyModule := pm, code := cd, builtins := 0 } }
def en (P : Params) (x : String) (t : Tok) (v : Value) : DictEntry := ⟨PyData.keyHash P (Str.ofString x), .str (Str.ofString x) t, v⟩
noncomputable def o3 (P : Params) : Obj := { cls := Value.type "dict", data := Data.dict #[en P "__name__" 165 (Value.str (Str.ofString "law_qz0017_01") 1020), en P "__doc__" 166 (Value.none), en P "__package__" 167 (Value.none), en P "__loader__" 168 (Value.builtin "__main__.__loader__#opaque"), en P "__spec__" 169 (Value.none), en P "__annotations__" 170 (Value.ref 6), en P "__builtins__" 171 (Value.ref 4), en P "__file__" 173 (Value.str (Str.ofString "/claim/cut.py") 172), en P "__cached__" 174 (Value.none), en P "_wall" 193 (Value.ref 21), en P "SmtError" 233 (Value.ref 47), en P "SortFault" 256 (Value.ref 67), en P "order_of" 265 (Value.ref 76), en P "tidy" 274 (Value.ref 83), en P "HOLDS" 278 (Value.int 1 277), en P "FAILS" 280 (Value.int 2 279), en P "BOTH" 282 (Value.int 3 281), en P "OPENED" 290 (Value.ref 84), en P "is_opened" 299 (Value.ref 91), en P "and_schemas" 305 (Value.ref 96), en P "or_schemas" 311 (Value.ref 101), en P "xor_schemas" 320 (Value.ref 108), en P "ite_schemas" 330 (Value.ref 115), en P "distinct_schemas" 342 (Value.ref 122), en P "schemas" 352 (Value.ref 129), en P "ClauseStore" 398 (Value.ref 160), en P "BoolClauses" 597 (Value.ref 300), en P "BOOL" 601 (Value.int 0 600), en P "Bank" 886 (Value.ref 517), en P "BoolBank" 1019 (Value.ref 622), en P "_law_next" 1029 (Value.ref 631), en P "_law_part" 1035 (Value.ref 636), en P "_law_chain" 1049 (Value.ref 643), en P "_law_are_told" 1059 (Value.ref 650), en P "_law_truth" 1065 (Value.ref 655), en P "law" 1071 (Value.ref 660)] 36 }
noncomputable def o142 (_ : Params) : Obj := { cls := Value.type "code", data := Data.fields #[Value.str (Str.ofString "__init__") 365, Value.str (Str.ofString "ClauseStore.__init__") 366, Value.str (Str.ofString "/claim/cut.py") 367, Value.int 78 0, Value.int 1 0, Value.int 0 0, Value.int 0 0, Value.int 3 0, Value.ref 137, Value.bool Bool.true, Value.int 181 0, Value.ref 138, Value.none, Value.ref 139, Value.ref 140, Value.ref 141, Value.int 369 0, Value.int 78 0, Value.str (Str.ofString "/claim/cut.py") 370] }
noncomputable def o143 (_ : Params) : Obj := fnO (metAt 19 0) (Str.ofString "__init__") (Str.ofString "ClauseStore.__init__") (Value.str (Str.ofString "minismt.clauses") 275) (Value.ref 142)
noncomputable def o159 (P : Params) : Obj := { cls := Value.type "dict", data := Data.dict #[en P "__module__" 360 (Value.str (Str.ofString "minismt.clauses") 275), en P "__firstlineno__" 364 (Value.int 76 363), en P "__init__" 371 (Value.ref 143), en P "new_var" 378 (Value.ref 150), en P "add_clause" 387 (Value.ref 157), en P "__static_attributes__" 391 (Value.ref 158), en P "__dict__" 393 (Value.ref 161), en P "__weakref__" 395 (Value.ref 162), en P "__doc__" 396 (Value.none)] 4 }
noncomputable def o160 (_ : Params) : Obj := { cls := Value.type "type", data := Data.cls { name := Str.ofString "ClauseStore", bases := [Value.type "object"], mro := [Value.ref 160, Value.type "object"], ns := 159, qualname := Str.ofString "ClauseStore" }, slots := #[Option.none, Option.none, Option.some (Value.str (Str.ofString "ClauseStore") 353), Option.some (Value.str (Str.ofString "ClauseStore") 361), Option.some (Value.builtin "object.__new__"), Option.some (Value.bool Bool.true)] }
noncomputable def o177 (_ : Params) : Obj := { cls := Value.type "code", data := Data.fields #[Value.str (Str.ofString "__init__") 411, Value.str (Str.ofString "BoolClauses.__init__") 412, Value.str (Str.ofString "/claim/cut.py") 413, Value.int 93 0, Value.int 4 0, Value.int 0 0, Value.int 0 0, Value.int 3 0, Value.ref 172, Value.bool Bool.true, Value.int 181 0, Value.ref 173, Value.none, Value.ref 174, Value.ref 175, Value.ref 176, Value.int 418 0, Value.int 93 0, Value.str (Str.ofString "/claim/cut.py") 419] }
noncomputable def o178 (_ : Params) : Obj := fnO (metAt 20 0) (Str.ofString "__init__") (Str.ofString "BoolClauses.__init__") (Value.str (Str.ofString "minismt.clauses") 275) (Value.ref 177)
noncomputable def o198 (_ : Params) : Obj := { cls := Value.type "code", data := Data.fields #[Value.str (Str.ofString "named_terms") 439, Value.str (Str.ofString "BoolClauses.named_terms") 440, Value.str (Str.ofString "/claim/cut.py") 441, Value.int 122 0, Value.int 1 0, Value.int 0 0, Value.int 0 0, Value.int 3 0, Value.ref 193, Value.bool Bool.true, Value.int 181 0, Value.ref 194, Value.none, Value.ref 195, Value.ref 196, Value.ref 197, Value.int 443 0, Value.int 122 0, Value.str (Str.ofString "/claim/cut.py") 444] }
noncomputable def o199 (_ : Params) : Obj := fnO (metAt 20 3) (Str.ofString "named_terms") (Str.ofString "BoolClauses.named_terms") (Value.str (Str.ofString "minismt.clauses") 275) (Value.ref 198)
noncomputable def o296 (_ : Params) : Obj := { cls := Value.type "code", data := Data.fields #[Value.str (Str.ofString "alternatives") 570, Value.str (Str.ofString "BoolClauses.alternatives") 571, Value.str (Str.ofString "/claim/cut.py") 572, Value.int 198 0, Value.int 2 0, Value.int 0 0, Value.int 0 0, Value.int 3 0, Value.ref 291, Value.bool Bool.true, Value.int 181 0, Value.ref 292, Value.none, Value.ref 293, Value.ref 294, Value.ref 295, Value.int 578 0, Value.int 198 0, Value.str (Str.ofString "/claim/cut.py") 579] }
noncomputable def o297 (_ : Params) : Obj := fnO (metAt 20 17) (Str.ofString "alternatives") (Str.ofString "BoolClauses.alternatives") (Value.str (Str.ofString "minismt.clauses") 275) (Value.ref 296)
noncomputable def o299 (P : Params) : Obj := { cls := Value.type "dict", data := Data.dict #[en P "__module__" 406 (Value.str (Str.ofString "minismt.clauses") 275), en P "__firstlineno__" 410 (Value.int 91 409), en P "__init__" 420 (Value.ref 178), en P "stripped" 429 (Value.ref 185), en P "var_of" 438 (Value.ref 192), en P "named_terms" 445 (Value.ref 199), en P "known_literal" 453 (Value.ref 206), en P "enter" 465 (Value.ref 213), en P "want" 476 (Value.ref 220), en P "named_fully" 484 (Value.ref 227), en P "literal_of" 492 (Value.ref 234), en P "emit" 504 (Value.ref 241), en P "literals_of" 515 (Value.ref 248), en P "flush" 524 (Value.ref 255), en P "open_term" 535 (Value.ref 262), en P "open_atom" 543 (Value.ref 269), en P "assert_formula" 552 (Value.ref 276), en P "assert_parts" 560 (Value.ref 283), en P "top_clause" 569 (Value.ref 290), en P "alternatives" 580 (Value.ref 297), en P "__static_attributes__" 590 (Value.ref 298), en P "__dict__" 592 (Value.ref 301), en P "__weakref__" 594 (Value.ref 302), en P "__doc__" 595 (Value.none)] 4 }
noncomputable def o300 (_ : Params) : Obj := { cls := Value.type "type", data := Data.cls { name := Str.ofString "BoolClauses", bases := [Value.type "object"], mro := [Value.ref 300, Value.type "object"], ns := 299, qualname := Str.ofString "BoolClauses" }, slots := #[Option.none, Option.none, Option.some (Value.str (Str.ofString "BoolClauses") 399), Option.some (Value.str (Str.ofString "BoolClauses") 407), Option.some (Value.builtin "object.__new__"), Option.some (Value.bool Bool.true)] }
noncomputable def o317 (_ : Params) : Obj := { cls := Value.type "code", data := Data.fields #[Value.str (Str.ofString "__init__") 614, Value.str (Str.ofString "Bank.__init__") 615, Value.str (Str.ofString "/claim/cut.py") 616, Value.int 211 0, Value.int 1 0, Value.int 0 0, Value.int 0 0, Value.int 3 0, Value.ref 312, Value.bool Bool.true, Value.int 181 0, Value.ref 313, Value.none, Value.ref 314, Value.ref 315, Value.ref 316, Value.int 618 0, Value.int 211 0, Value.str (Str.ofString "/claim/cut.py") 619] }
noncomputable def o318 (_ : Params) : Obj := fnO (metAt 23 0) (Str.ofString "__init__") (Str.ofString "Bank.__init__") (Value.str (Str.ofString "minismt.terms") 598) (Value.ref 317)
noncomputable def o359 (_ : Params) : Obj := { cls := Value.type "code", data := Data.fields #[Value.str (Str.ofString "declare_fun") 661, Value.str (Str.ofString "Bank.declare_fun") 662, Value.str (Str.ofString "/claim/cut.py") 663, Value.int 241 0, Value.int 4 0, Value.int 0 0, Value.int 0 0, Value.int 3 0, Value.ref 354, Value.bool Bool.true, Value.int 181 0, Value.ref 355, Value.none, Value.ref 356, Value.ref 357, Value.ref 358, Value.int 668 0, Value.int 241 0, Value.str (Str.ofString "/claim/cut.py") 669] }
noncomputable def o360 (_ : Params) : Obj := fnO (metAt 23 6) (Str.ofString "declare_fun") (Str.ofString "Bank.declare_fun") (Value.str (Str.ofString "minismt.terms") 598) (Value.ref 359)
noncomputable def o373 (_ : Params) : Obj := { cls := Value.type "code", data := Data.fields #[Value.str (Str.ofString "fresh_const") 681, Value.str (Str.ofString "Bank.fresh_const") 682, Value.str (Str.ofString "/claim/cut.py") 683, Value.int 250 0, Value.int 3 0, Value.int 0 0, Value.int 0 0, Value.int 3 0, Value.ref 368, Value.bool Bool.true, Value.int 181 0, Value.ref 369, Value.none, Value.ref 370, Value.ref 371, Value.ref 372, Value.int 687 0, Value.int 250 0, Value.str (Str.ofString "/claim/cut.py") 688] }
noncomputable def o374 (_ : Params) : Obj := fnO (metAt 23 8) (Str.ofString "fresh_const") (Str.ofString "Bank.fresh_const") (Value.str (Str.ofString "minismt.terms") 598) (Value.ref 373)
noncomputable def o408 (_ : Params) : Obj := { cls := Value.type "code", data := Data.fields #[Value.str (Str.ofString "op") 721, Value.str (Str.ofString "Bank.op") 722, Value.str (Str.ofString "/claim/cut.py") 723, Value.int 265 0, Value.int 2 0, Value.int 0 0, Value.int 0 0, Value.int 3 0, Value.ref 403, Value.bool Bool.true, Value.int 181 0, Value.ref 404, Value.none, Value.ref 405, Value.ref 406, Value.ref 407, Value.int 726 0, Value.int 265 0, Value.str (Str.ofString "/claim/cut.py") 727] }
noncomputable def o409 (_ : Params) : Obj := fnO (metAt 23 13) (Str.ofString "op") (Str.ofString "Bank.op") (Value.str (Str.ofString "minismt.terms") 598) (Value.ref 408)
noncomputable def o415 (_ : Params) : Obj := { cls := Value.type "code", data := Data.fields #[Value.str (Str.ofString "args") 729, Value.str (Str.ofString "Bank.args") 730, Value.str (Str.ofString "/claim/cut.py") 731, Value.int 268 0, Value.int 2 0, Value.int 0 0, Value.int 0 0, Value.int 3 0, Value.ref 410, Value.bool Bool.true, Value.int 181 0, Value.ref 411, Value.none, Value.ref 412, Value.ref 413, Value.ref 414, Value.int 734 0, Value.int 268 0, Value.str (Str.ofString "/claim/cut.py") 735] }
noncomputable def o416 (_ : Params) : Obj := fnO (metAt 23 14) (Str.ofString "args") (Str.ofString "Bank.args") (Value.str (Str.ofString "minismt.terms") 598) (Value.ref 415)
noncomputable def o443 (_ : Params) : Obj := { cls := Value.type "code", data := Data.fields #[Value.str (Str.ofString "size") 761, Value.str (Str.ofString "Bank.size") 762, Value.str (Str.ofString "/claim/cut.py") 763, Value.int 280 0, Value.int 1 0, Value.int 0 0, Value.int 0 0, Value.int 3 0, Value.ref 438, Value.bool Bool.true, Value.int 181 0, Value.ref 439, Value.none, Value.ref 440, Value.ref 441, Value.ref 442, Value.int 765 0, Value.int 280 0, Value.str (Str.ofString "/claim/cut.py") 766] }
noncomputable def o444 (_ : Params) : Obj := fnO (metAt 23 18) (Str.ofString "size") (Str.ofString "Bank.size") (Value.str (Str.ofString "minismt.terms") 598) (Value.ref 443)
noncomputable def o450 (_ : Params) : Obj := { cls := Value.type "code", data := Data.fields #[Value.str (Str.ofString "make") 768, Value.str (Str.ofString "Bank.make") 769, Value.str (Str.ofString "/claim/cut.py") 770, Value.int 283 0, Value.int 5 0, Value.int 0 0, Value.int 0 0, Value.int 3 0, Value.ref 445, Value.bool Bool.true, Value.int 181 0, Value.ref 446, Value.none, Value.ref 447, Value.ref 448, Value.ref 449, Value.int 778 0, Value.int 283 0, Value.str (Str.ofString "/claim/cut.py") 779] }
noncomputable def o451 (_ : Params) : Obj := fnO (metAt 23 19) (Str.ofString "make") (Str.ofString "Bank.make") (Value.str (Str.ofString "minismt.terms") 598) (Value.ref 450)
noncomputable def o471 (_ : Params) : Obj := { cls := Value.type "code", data := Data.fields #[Value.str (Str.ofString "want") 800, Value.str (Str.ofString "Bank.want") 801, Value.str (Str.ofString "/claim/cut.py") 802, Value.int 301 0, Value.int 4 0, Value.int 0 0, Value.int 0 0, Value.int 3 0, Value.ref 466, Value.bool Bool.true, Value.int 181 0, Value.ref 467, Value.none, Value.ref 468, Value.ref 469, Value.ref 470, Value.int 807 0, Value.int 301 0, Value.str (Str.ofString "/claim/cut.py") 808] }
noncomputable def o472 (_ : Params) : Obj := fnO (metAt 23 22) (Str.ofString "want") (Str.ofString "Bank.want") (Value.str (Str.ofString "minismt.terms") 598) (Value.ref 471)
noncomputable def o478 (_ : Params) : Obj := { cls := Value.type "code", data := Data.fields #[Value.str (Str.ofString "want_all") 810, Value.str (Str.ofString "Bank.want_all") 811, Value.str (Str.ofString "/claim/cut.py") 812, Value.int 305 0, Value.int 4 0, Value.int 0 0, Value.int 0 0, Value.int 3 0, Value.ref 473, Value.bool Bool.true, Value.int 181 0, Value.ref 474, Value.none, Value.ref 475, Value.ref 476, Value.ref 477, Value.int 818 0, Value.int 305 0, Value.str (Str.ofString "/claim/cut.py") 819] }
noncomputable def o479 (_ : Params) : Obj := fnO (metAt 23 23) (Str.ofString "want_all") (Str.ofString "Bank.want_all") (Value.str (Str.ofString "minismt.terms") 598) (Value.ref 478)
noncomputable def o516 (P : Params) : Obj := { cls := Value.type "dict", data := Data.dict #[en P "__module__" 609 (Value.str (Str.ofString "minismt.terms") 598), en P "__firstlineno__" 613 (Value.int 209 612), en P "__init__" 620 (Value.ref 318), en P "sort_name" 628 (Value.ref 325), en P "declare_sort" 636 (Value.ref 332), en P "width_of" 644 (Value.ref 339), en P "is_number_sort" 652 (Value.ref 346), en P "is_free_sort" 660 (Value.ref 353), en P "declare_fun" 670 (Value.ref 360), en P "fresh_fun" 680 (Value.ref 367), en P "fresh_const" 689 (Value.ref 374), en P "fun_name" 697 (Value.ref 381), en P "fun_arg_sorts" 705 (Value.ref 388), en P "fun_result" 713 (Value.ref 395), en P "fun_count" 720 (Value.ref 402), en P "op" 728 (Value.ref 409), en P "args" 736 (Value.ref 416), en P "sort" 744 (Value.ref 423), en P "data" 752 (Value.ref 430), en P "width" 760 (Value.ref 437), en P "size" 767 (Value.ref 444), en P "make" 780 (Value.ref 451), en P "find_made" 791 (Value.ref 458), en P "is_value" 799 (Value.ref 465), en P "want" 809 (Value.ref 472), en P "want_all" 820 (Value.ref 479), en P "true_term" 827 (Value.ref 486), en P "false_term" 834 (Value.ref 493), en P "bool_term" 842 (Value.ref 500), en P "parts" 850 (Value.ref 507), en P "parts_of_all" 865 (Value.ref 514), en P "__static_attributes__" 879 (Value.ref 515), en P "__dict__" 881 (Value.ref 518), en P "__weakref__" 883 (Value.ref 519), en P "__doc__" 884 (Value.none)] 4 }
noncomputable def o517 (_ : Params) : Obj := { cls := Value.type "type", data := Data.cls { name := Str.ofString "Bank", bases := [Value.type "object"], mro := [Value.ref 517, Value.type "object"], ns := 516, qualname := Str.ofString "Bank", subclasses := [Value.ref 622] }, slots := #[Option.none, Option.none, Option.some (Value.str (Str.ofString "Bank") 602), Option.some (Value.str (Str.ofString "Bank") 610), Option.some (Value.builtin "object.__new__"), Option.some (Value.bool Bool.true)] }
noncomputable def o534 (_ : Params) : Obj := { cls := Value.type "code", data := Data.fields #[Value.str (Str.ofString "not_of") 899, Value.str (Str.ofString "BoolBank.not_of") 900, Value.str (Str.ofString "/claim/cut.py") 901, Value.int 340 0, Value.int 2 0, Value.int 0 0, Value.int 0 0, Value.int 3 0, Value.ref 529, Value.bool Bool.true, Value.int 181 0, Value.ref 530, Value.none, Value.ref 531, Value.ref 532, Value.ref 533, Value.int 904 0, Value.int 340 0, Value.str (Str.ofString "/claim/cut.py") 905] }
noncomputable def o535 (_ : Params) : Obj := fnO (metAt 24 0) (Str.ofString "not_of") (Str.ofString "BoolBank.not_of") (Value.str (Str.ofString "minismt.terms") 598) (Value.ref 534)
noncomputable def o541 (_ : Params) : Obj := { cls := Value.type "code", data := Data.fields #[Value.str (Str.ofString "and_of") 907, Value.str (Str.ofString "BoolBank.and_of") 908, Value.str (Str.ofString "/claim/cut.py") 909, Value.int 350 0, Value.int 2 0, Value.int 0 0, Value.int 0 0, Value.int 3 0, Value.ref 536, Value.bool Bool.true, Value.int 181 0, Value.ref 537, Value.none, Value.ref 538, Value.ref 539, Value.ref 540, Value.int 912 0, Value.int 350 0, Value.str (Str.ofString "/claim/cut.py") 913] }
noncomputable def o542 (_ : Params) : Obj := fnO (metAt 24 1) (Str.ofString "and_of") (Str.ofString "BoolBank.and_of") (Value.str (Str.ofString "minismt.terms") 598) (Value.ref 541)
noncomputable def o548 (_ : Params) : Obj := { cls := Value.type "code", data := Data.fields #[Value.str (Str.ofString "or_of") 915, Value.str (Str.ofString "BoolBank.or_of") 916, Value.str (Str.ofString "/claim/cut.py") 917, Value.int 356 0, Value.int 2 0, Value.int 0 0, Value.int 0 0, Value.int 3 0, Value.ref 543, Value.bool Bool.true, Value.int 181 0, Value.ref 544, Value.none, Value.ref 545, Value.ref 546, Value.ref 547, Value.int 920 0, Value.int 356 0, Value.str (Str.ofString "/claim/cut.py") 921] }
noncomputable def o549 (_ : Params) : Obj := fnO (metAt 24 2) (Str.ofString "or_of") (Str.ofString "BoolBank.or_of") (Value.str (Str.ofString "minismt.terms") 598) (Value.ref 548)
noncomputable def o562 (_ : Params) : Obj := { cls := Value.type "code", data := Data.fields #[Value.str (Str.ofString "implies_of") 932, Value.str (Str.ofString "BoolBank.implies_of") 933, Value.str (Str.ofString "/claim/cut.py") 934, Value.int 365 0, Value.int 3 0, Value.int 0 0, Value.int 0 0, Value.int 3 0, Value.ref 557, Value.bool Bool.true, Value.int 181 0, Value.ref 558, Value.none, Value.ref 559, Value.ref 560, Value.ref 561, Value.int 938 0, Value.int 365 0, Value.str (Str.ofString "/claim/cut.py") 939] }
noncomputable def o563 (_ : Params) : Obj := fnO (metAt 24 4) (Str.ofString "implies_of") (Str.ofString "BoolBank.implies_of") (Value.str (Str.ofString "minismt.terms") 598) (Value.ref 562)
noncomputable def o621 (P : Params) : Obj := { cls := Value.type "dict", data := Data.dict #[en P "__module__" 894 (Value.str (Str.ofString "minismt.terms") 598), en P "__firstlineno__" 898 (Value.int 338 897), en P "not_of" 906 (Value.ref 535), en P "and_of" 914 (Value.ref 542), en P "or_of" 922 (Value.ref 549), en P "xor_of" 931 (Value.ref 556), en P "implies_of" 940 (Value.ref 563), en P "iff" 949 (Value.ref 570), en P "eq" 958 (Value.ref 577), en P "distinct" 966 (Value.ref 584), en P "ite" 976 (Value.ref 591), en P "app" 988 (Value.ref 598), en P "folded" 997 (Value.ref 605), en P "with_args" 1006 (Value.ref 612), en P "replaced" 1015 (Value.ref 619), en P "__static_attributes__" 1016 (Value.ref 620), en P "__doc__" 1017 (Value.none)] 2 }
noncomputable def o622 (_ : Params) : Obj := { cls := Value.type "type", data := Data.cls { name := Str.ofString "BoolBank", bases := [Value.ref 517], mro := [Value.ref 622, Value.ref 517, Value.type "object"], ns := 621, qualname := Str.ofString "BoolBank" }, slots := #[Option.some (Value.ref 522), Option.none, Option.some (Value.str (Str.ofString "BoolBank") 887), Option.some (Value.str (Str.ofString "BoolBank") 895), Option.some (Value.builtin "object.__new__"), Option.some (Value.bool Bool.true)] }
noncomputable def o630 (_ : Params) : Obj := { cls := Value.type "code", data := Data.fields #[Value.str (Str.ofString "_law_next") 1022, Value.str (Str.ofString "_law_next") 1023, Value.str (Str.ofString "/claim/cut.py") 1024, Value.int 407 0, Value.int 2 0, Value.int 0 0, Value.int 0 0, Value.int 3 0, Value.ref 625, Value.bool Bool.true, Value.int 181 0, Value.ref 626, Value.none, Value.ref 627, Value.ref 628, Value.ref 629, Value.int 1027 0, Value.int 407 0, Value.str (Str.ofString "/claim/cut.py") 1028] }
noncomputable def o631 (_ : Params) : Obj := fnO (topAt 26) (Str.ofString "_law_next") (Str.ofString "_law_next") (Value.str (Str.ofString "law_qz0017_01") 1020) (Value.ref 630)
noncomputable def o635 (_ : Params) : Obj := { cls := Value.type "code", data := Data.fields #[Value.str (Str.ofString "_law_part") 1030, Value.str (Str.ofString "_law_part") 1031, Value.str (Str.ofString "/claim/cut.py") 1032, Value.int 412 0, Value.int 3 0, Value.int 0 0, Value.int 0 0, Value.int 3 0, Value.ref 632, Value.bool Bool.true, Value.int 181 0, Value.ref 633, Value.none, Value.none, Value.none, Value.ref 634, Value.int 1033 0, Value.int 412 0, Value.str (Str.ofString "/claim/cut.py") 1034] }
noncomputable def o636 (_ : Params) : Obj := fnO (topAt 27) (Str.ofString "_law_part") (Str.ofString "_law_part") (Value.str (Str.ofString "law_qz0017_01") 1020) (Value.ref 635)
noncomputable def o642 (_ : Params) : Obj := { cls := Value.type "code", data := Data.fields #[Value.str (Str.ofString "_law_chain") 1036, Value.str (Str.ofString "_law_chain") 1037, Value.str (Str.ofString "/claim/cut.py") 1038, Value.int 430 0, Value.int 2 0, Value.int 0 0, Value.int 0 0, Value.int 3 0, Value.ref 637, Value.bool Bool.true, Value.int 181 0, Value.ref 638, Value.none, Value.ref 639, Value.ref 640, Value.ref 641, Value.int 1047 0, Value.int 430 0, Value.str (Str.ofString "/claim/cut.py") 1048] }
noncomputable def o643 (_ : Params) : Obj := fnO (topAt 28) (Str.ofString "_law_chain") (Str.ofString "_law_chain") (Value.str (Str.ofString "law_qz0017_01") 1020) (Value.ref 642)
noncomputable def o649 (_ : Params) : Obj := { cls := Value.type "code", data := Data.fields #[Value.str (Str.ofString "_law_are_told") 1050, Value.str (Str.ofString "_law_are_told") 1051, Value.str (Str.ofString "/claim/cut.py") 1052, Value.int 440 0, Value.int 3 0, Value.int 0 0, Value.int 0 0, Value.int 3 0, Value.ref 644, Value.bool Bool.true, Value.int 181 0, Value.ref 645, Value.none, Value.ref 646, Value.ref 647, Value.ref 648, Value.int 1057 0, Value.int 440 0, Value.str (Str.ofString "/claim/cut.py") 1058] }
noncomputable def o650 (_ : Params) : Obj := fnO (topAt 29) (Str.ofString "_law_are_told") (Str.ofString "_law_are_told") (Value.str (Str.ofString "law_qz0017_01") 1020) (Value.ref 649)
noncomputable def o654 (_ : Params) : Obj := { cls := Value.type "code", data := Data.fields #[Value.str (Str.ofString "_law_truth") 1060, Value.str (Str.ofString "_law_truth") 1061, Value.str (Str.ofString "/claim/cut.py") 1062, Value.int 443 0, Value.int 4 0, Value.int 0 0, Value.int 0 0, Value.int 3 0, Value.ref 651, Value.bool Bool.true, Value.int 181 0, Value.ref 652, Value.none, Value.none, Value.none, Value.ref 653, Value.int 1063 0, Value.int 443 0, Value.str (Str.ofString "/claim/cut.py") 1064] }
noncomputable def o655 (_ : Params) : Obj := fnO (topAt 30) (Str.ofString "_law_truth") (Str.ofString "_law_truth") (Value.str (Str.ofString "law_qz0017_01") 1020) (Value.ref 654)
noncomputable def o659 (_ : Params) : Obj := { cls := Value.type "code", data := Data.fields #[Value.str (Str.ofString "law") 1066, Value.str (Str.ofString "law") 1067, Value.str (Str.ofString "/claim/cut.py") 1068, Value.int 452 0, Value.int 1 0, Value.int 0 0, Value.int 0 0, Value.int 3 0, Value.ref 656, Value.bool Bool.true, Value.int 181 0, Value.ref 657, Value.none, Value.none, Value.none, Value.ref 658, Value.int 1069 0, Value.int 452 0, Value.str (Str.ofString "/claim/cut.py") 1070] }
noncomputable def o660 (_ : Params) : Obj := fnO (topAt 31) (Str.ofString "law") (Str.ofString "law") (Value.str (Str.ofString "law_qz0017_01") 1020) (Value.ref 659)
noncomputable def KF (P : Params) : Frag := [(3, o3 P), (142, o142 P), (143, o143 P), (159, o159 P), (160, o160 P), (177, o177 P), (178, o178 P), (198, o198 P), (199, o199 P), (296, o296 P), (297, o297 P), (299, o299 P), (300, o300 P), (317, o317 P), (318, o318 P), (359, o359 P), (360, o360 P), (373, o373 P), (374, o374 P), (408, o408 P), (409, o409 P), (415, o415 P), (416, o416 P), (443, o443 P), (444, o444 P), (450, o450 P), (451, o451 P), (471, o471 P), (472, o472 P), (478, o478 P), (479, o479 P), (516, o516 P), (517, o517 P), (534, o534 P), (535, o535 P), (541, o541 P), (542, o542 P), (548, o548 P), (549, o549 P), (562, o562 P), (563, o563 P), (621, o621 P), (622, o622 P), (630, o630 P), (631, o631 P), (635, o635 P), (636, o636 P), (642, o642 P), (643, o643 P), (649, o649 P), (650, o650 P), (654, o654 P), (655, o655 P), (659, o659 P), (660, o660 P)]
noncomputable def KA : List Addr := [3, 142, 143, 159, 160, 177, 178, 198, 199, 296, 297, 299, 300, 317, 318, 359, 360, 373, 374, 408, 409, 415, 416, 443, 444, 450, 451, 471, 472, 478, 479, 516, 517, 534, 535, 541, 542, 548, 549, 562, 563, 621, 622, 630, 631, 635, 636, 642, 643, 649, 650, 654, 655, 659, 660]

theorem KA_eq : ∀ P, KA = (KF P).map (·.1) := fun _ => rfl
def HK : Hook := kHook KF KA KA_eq
def qv : Program := view pw [0, 2, 3, 5, 6, 8, 9, 10, 11, 12, 13, 14, 15, 16, 17, 18, 19, 20, 22, 23, 24, 26, 27, 28, 29, 30, 31]
/-! the opening and the first frames -/
noncomputable def oA : Obj := { cls := Value.type "tuple", data := Data.seq #[] }
noncomputable def oB : Obj := { cls := Value.none, data := Data.fields #[] }
noncomputable def oC : Obj := { cls := Value.type "code", data := Data.fields #[Value.str (Str.ofString "<module>") 182, Value.str (Str.ofString "<module>") 183, Value.str (Str.ofString "/claim/cut.py") 184, Value.int 1 0, Value.int 0 0, Value.int 0 0, Value.int 0 0, Value.int 0 0, Value.ref 11, Value.bool false, Value.int 181 0, Value.ref 12, Value.none, Value.none, Value.none, Value.none, Value.int 185 0, Value.int 1 0, Value.str (Str.ofString "/claim/cut.py") 186] }
noncomputable def oD : Obj := { cls := Value.type "frame", slots := #[some (Value.ref 13), some (Value.ref 3), some (Value.ref 3), none, some (Value.str (Str.ofString "__main__") 164), none, some (Value.ref 0)] }
noncomputable def heapA (P : Params) : Heap := { objs := ⟨[boot_o_0 P, boot_o_1 P, boot_o_2 P, boot_o_3 P, boot_o_4 P, boot_o_5 P, boot_o_6 P, boot_o_7 P, boot_o_8 P, boot_o_9 P, boot_o_10 P, oA, oB, oC, oD]⟩ }
noncomputable def treeA (P : Params) : BT :=
  .node (boot_o_0 P)
    (.node (boot_o_1 P) (.node (boot_o_3 P) (.node (boot_o_7 P) .nil .nil) (.node oA .nil .nil)) (.node (boot_o_5 P) (.node (boot_o_9 P) .nil .nil) (.node oC .nil .nil)))
    (.node (boot_o_2 P) (.node (boot_o_4 P) (.node (boot_o_8 P) .nil .nil) (.node oB .nil .nil)) (.node (boot_o_6 P) (.node (boot_o_10 P) .nil .nil) (.node oD .nil .nil)))
noncomputable def envT : Env := { scope := pw.main.scope, locals := mainNs, globals := mainNs, cells := [], code := Value.ref 13, frame := some 14 }
abbrev bdT : List Stmt := behindTheImports pw
abbrev cT : Code := .body bdT envT
abbrev p0 : Pos := { line := 0, col := 0, endLine := 0, endCol := 0 }
def pE : Pos := { line := 452, col := 0, endLine := 470, endCol := 101 }
abbrev ann0 : Option Value := some (.ref 6)
abbrev XT : Shared → Bool := fun s => xlAt qv [] s && recOk (RowW.records PySem.Challenge.rw_qz0017_01.row.toRowW) s
abbrev NN : Nat := 8068
abbrev FF := @PySem.W.Fast.tw10110043849684766642
abbrev fTab := PySem.W.Fast.tw14364793385576792824
theorem FF_eq : @segRunT = @FF := PySem.W.Fast.te10110043849684766642
theorem fTab_eq : treeTable = fTab := PySem.W.Fast.te14364793385576792824
theorem topRun_eq : @topRun = @PySem.W.Fast.tw14082659384304107361 := PySem.W.Fast.te14082659384304107361
theorem topGo_eq : @topGo = @PySem.W.Fast.tw15667345088766844465 := PySem.W.Fast.te15667345088766844465
theorem openSeen_eq : @openSeen = @PySem.W.Fast.tw4187177175401517315 := PySem.W.Fast.te4187177175401517315
theorem segRun_eq : @segRun = @PySem.W.Fast.tw14374325043358763698 := PySem.W.Fast.te14374325043358763698
theorem denote_eq : @denote = @PySem.W.Fast.tw11892475500146522536 := PySem.W.Fast.te11892475500146522536

theorem pre_ok (w : World) (os : OsState) : topGo treeTable pw w 11 ann0 12 ⟨boot_heap w.params, ⟨[]⟩, boot_drawn, boot_toks, os⟩ (topStub pw) = some (⟨heapA w.params, ⟨[]⟩, {}, 187, os⟩, ⟨denote treeTable cT, cT, p0, [topFrame p0]⟩) := by
  rw [topGo_eq, denote_eq, fTab_eq]; kernel_rfl
theorem size_ok (w : World) : ((boot_heap w.params).isNs mainGlobals && (⟨[]⟩ : Array GenState).size == 0, (boot_heap w.params).objs.size, (boot_heap w.params).nsMap mainGlobals "__annotations__") = (true, 11, ann0) := by
  kernel_rfl
theorem block_ok (w : World) (os : OsState) : segRun treeTable pw w 11 ann0 1 1 ⟨heapA w.params, ⟨[]⟩, {}, 187, os⟩ (blockOf bdT envT cT p0 [topFrame p0]) = some (.next, (⟨treeA w.params, 15, {}, ⟨[]⟩, {}, 187, os⟩ : SharedT).abs, cT, p0) := by
  rw [segRun_eq, fTab_eq]; kernel_rfl
/-- what is looked at behind the run -/
noncomputable def chk (w : World) (s : Shared) := (staticsOk (importedModules pw.main.body) (boot_heap w.params) s.heap && namesBound pw s.heap && gensDone s && laidKept (boot_heap w.params) s.heap, openSeen qv [] (importedModules pw.main.body) XT true s, HK.obs s)
noncomputable def chkF (w : World) (s : Shared) := (staticsOk (importedModules pw.main.body) (boot_heap w.params) s.heap && namesBound pw s.heap && gensDone s && laidKept (boot_heap w.params) s.heap, PySem.W.Fast.tw4187177175401517315 qv [] (importedModules pw.main.body) XT true s, HK.obs s)
theorem chk_eq : chk = chkF := by unfold chk chkF; rw [openSeen_eq]
theorem run_fast (w : World) (os : OsState) : (FF fTab pw w 11 ann0 1 4100 ⟨treeA w.params, 15, {}, ⟨[]⟩, {}, 187, os⟩ (piecesOf bdT envT cT p0 [topFrame p0])).map (fun r => (r.1, chkF w r.2.1.abs, r.2.2)) = some (.next, (true, openGood qv [], HK.val w), cT, pE) := by
  kernel_rfl
end
noncomputable section
theorem left_gen {p q : Program} {loose : List Str} {Xt : Shared → Bool} {α : Type} {Yf : Shared → α} {Ya : World → α} {N : Nat} {g0 : Bool} {H₀ : Params → Heap} {gs₀ : Array GenState} {d₀ : Drawn} {k₀ : Nat} {m₀ : Nat} {ann : Option Value}
    (open_ : ∀ w : World, (fencedOpening treeTable p w N).map (fun s => (s.heap, s.gens, s.drawn, s.toks)) = some (H₀ w.params, gs₀, d₀, k₀))
    (size : ∀ w : World, ((H₀ w.params).isNs mainGlobals && gs₀.size == 0, (H₀ w.params).objs.size, (H₀ w.params).nsMap mainGlobals "__annotations__") = (true, m₀, ann))
    (run : ∀ (w : World) (os : OsState), ∃ s₁, topRun treeTable p w m₀ ann N ⟨H₀ w.params, gs₀, d₀, k₀, os⟩ (topStub p) = some s₁ ∧
      (staticsOk (importedModules p.main.body) (H₀ w.params) s₁.heap && namesBound p s₁.heap && gensDone s₁ && laidKept (H₀ w.params) s₁.heap) = true ∧
      (openSeen q loose (importedModules p.main.body) Xt g0 s₁, Yf s₁) = (openGood q loose, Ya w)) : LeftO p q loose Xt Yf Ya N g0 := fun w => by
  obtain ⟨⟨h, gs, d, k, os⟩, e, e'⟩ := Option.map_eq_some_iff.mp (open_ w)
  obtain ⟨rfl, rfl, rfl, rfl⟩ : h = H₀ w.params ∧ gs = gs₀ ∧ d = d₀ ∧ k = k₀ := by simpa using e'
  obtain ⟨z1, z2, z3⟩ : _ ∧ _ ∧ _ := by simpa only [Prod.mk.injEq] using size w
  obtain ⟨s₁, r, l1, l2⟩ := run w os
  have t : topFrom treeTable p w N ⟨H₀ w.params, gs, d, k, os⟩ = some s₁ := by
    unfold topFrom
    dsimp only
    rw [z1, z2, z3, r]
    show (match staticsOk (importedModules p.main.body) (H₀ w.params) s₁.heap && namesBound p s₁.heap && gensDone s₁ && laidKept (H₀ w.params) s₁.heap with | true => _ | false => _) = _
    rw [l1]
  unfold openEnds
  rw [e]
  show (topFrom treeTable p w N _).map _ = _
  rw [t]
  exact congrArg some l2
theorem op1 : opening pw = plainProg pw.main.scope.names := rfl
theorem op2 : ∀ s, fenceModules? pw s = some s := fun _ => rfl
theorem boot1 (w : World) : (fencedOpening treeTable pw w NN).map (fun s => (s.heap, s.gens, s.drawn, s.toks)) = some (boot_heap w.params, Array.mk [], boot_drawn, boot_toks) := boot_open (p := pw) (N := NN) op1 rfl op2 w
theorem fin_ok (w : World) (s : Shared) : topRun treeTable pw w 11 ann0 2 s ⟨doneF .next, cT, pE, [topFrame p0]⟩ = some s := by
  obtain ⟨h, g, d, t, o⟩ := s
  rfl
theorem all_run (w : World) (os : OsState) (sT : SharedT) (hr : segRunT treeTable pw w 11 ann0 1 4100 ⟨treeA w.params, 15, {}, ⟨[]⟩, {}, 187, os⟩ (piecesOf bdT envT cT p0 [topFrame p0]) = some (.next, sT, cT, pE)) :
    topRun treeTable pw w 11 ann0 NN ⟨boot_heap w.params, ⟨[]⟩, boot_drawn, boot_toks, os⟩ (topStub pw) = some sT.abs := by
  have hseg := segRun_of hr
  have a1 := piece_app hseg (rest := []) (k := fin_ok w sT.abs)
  rw [List.append_nil] at a1
  have a2 := piece_block (block_ok w os) a1
  have a3 := go_top (pre_ok w os) a2
  exact topRun_mono (NN - (12 + (1 + (4100 + 2)))) _ _ _ _ a3
theorem run_split (w : World) (os : OsState) : ∃ sT, segRunT treeTable pw w 11 ann0 1 4100 ⟨treeA w.params, 15, {}, ⟨[]⟩, {}, 187, os⟩ (piecesOf bdT envT cT p0 [topFrame p0]) = some (.next, sT, cT, pE) ∧ chk w sT.abs = (true, openGood qv [], HK.val w) := by
  obtain ⟨⟨fl, sT, c, q⟩, hr, he⟩ := Option.map_eq_some_iff.mp (run_fast w os)
  rw [← FF_eq, ← fTab_eq] at hr
  have he1 : fl = .next := congrArg (fun x => x.1) he
  have he2 : chkF w sT.abs = (true, openGood qv [], HK.val w) := congrArg (fun x => x.2.1) he
  have he3 : c = cT := congrArg (fun x => x.2.2.1) he
  have he4 : q = pE := congrArg (fun x => x.2.2.2) he
  rw [← chk_eq] at he2
  subst he1
  subst he3
  subst he4
  exact ⟨sT, hr, he2⟩
theorem chk_iff {w : World} {s : Shared} (h : chk w s = (true, openGood qv [], HK.val w)) : (staticsOk (importedModules pw.main.body) (boot_heap w.params) s.heap && namesBound pw s.heap && gensDone s && laidKept (boot_heap w.params) s.heap) = true ∧
    (openSeen qv [] (importedModules pw.main.body) XT true s, HK.obs s) = (openGood qv [], HK.val w) := by
  unfold chk at h
  exact ⟨congrArg (fun x => x.1) h, congrArg (fun x => x.2) h⟩
theorem left_ok : LeftO pw qv [] XT HK.obs HK.val NN := left_gen boot1 size_ok fun w os =>
  let ⟨sT, hr, he⟩ := run_split w os
  ⟨sT.abs, all_run w os sT hr, chk_iff he⟩
theorem said_ok : PySem.Challenge.rw_qz0017_01.wellSaid = true := by
  have e : @OpenLaw.wellSaid = @PySem.W.Fast.tw9446332074065402090 := PySem.W.Fast.te9446332074065402090
  rw [e]; kernel_rfl
end
noncomputable section
abbrev rl : OpenLaw := PySem.Challenge.rw_qz0017_01
abbrev rr : OpenRow := rl.row
def dLaw : DefRec := { name := Str.ofString "law", params := fPar (topAt 31), body := fBod (topAt 31), scope := fSco (topAt 31), pos := pE }
theorem hdef : defOf qv rr.name = some (dLaw, []) := by kernel_rfl
theorem hthe : rr.prog.theDef rr.name = some (dLaw.params, dLaw.body, dLaw.scope) := by kernel_rfl
theorem hkw : kwWritten? dLaw.params.kwonlyargs dLaw.params.kw_defaults = some [] := by kernel_rfl
theorem hok : (chainsOk qv && opensWell rr.prog && (frees rr.toRowW && rr.within.isEmpty)) = true := by kernel_rfl
theorem hbare : rr.prog.bare := ⟨rfl, rfl, rfl, rfl, rfl, by decide +kernel⟩
theorem hprom : rr.toRowW.promised := ⟨[.list [.int 3, .int 1]], by decide +kernel, by decide +kernel⟩
abbrev TheWalk : Prop := WalkO qv [] (XL qv []) HK.says rr.toRowW dLaw [] fun f vs => PySem.call f vs
theorem head (call : TheWalk) : rl.Holds :=
  holds_law said_ok fun said => holds_open (q := qv) (loose := []) (Xt := XT) (XP := XL qv []) (Yf := HK.obs) (Ya := HK.val) (YP := HK.says) (N := NN) left_ok HK.of HK.keeps
    (fun s e => xl_of s (Bool.and_eq_true_iff.mp e).1) XL.keeps hdef hthe hkw (fun s e => recFacts_of (Bool.and_eq_true_iff.mp e).2) rfl said hok hbare hprom call
end
end Mine
end
open PySem PySem.W PySem.Calls PyProof.Rows PySem.Spec
namespace Mine
/-! ## the judgement: a tree from a heap, tokens and exceptions put away -/
structure Gl where
  w : World
  s₀ : Shared
  hB : Heap
  mg : Str → Option Value
  mb : Str → Option Value
  mean : ExcName → Option Value
def sh (G : Gl) (h : Heap) (t : Nat) : Shared := { heap := h, gens := G.s₀.gens, drawn := G.s₀.drawn, toks := t, os := G.s₀.os }
abbrev MD (G : Gl) : Model := model pw G.w
def Po {α : Type} (G : Gl) (Q : α → Heap → Prop) (a : α) (s' : Shared) : Prop := ∃ h' t', s' = sh G h' t' ∧ Q a h'
def No : Value → Shared → Prop := fun _ _ => False
structure WP {α : Type} (G : Gl) (A : Around) (t : Sem α) (Q : α → Heap → Prop) (h : Heap) : Prop where
  run : ∀ tk, wpAny (MD G) A t (Po G Q) No (sh G h tk)
/-- a code's run that comes back with a flow -/
structure CD (G : Gl) (A : Around) (c : Code) (R : Flow → Heap → Prop) (h : Heap) : Prop where
  run : ∀ tk, codeAny (MD G) A c (fun r s' => ∃ f h' t', r = .ok f ∧ s' = sh G h' t' ∧ R f h') (sh G h tk)
section
variable {α β : Type} {G : Gl} {A : Around} {h : Heap}
theorem Po.intro {Q : α → Heap → Prop} {a : α} {h' : Heap} (t' : Nat) (q : Q a h') : Po G Q a (sh G h' t') := ⟨h', t', rfl, q⟩
theorem WP.mono {t : Sem α} {Q Q' : α → Heap → Prop} (x : WP G A t Q h) (k : ∀ a h', Q a h' → Q' a h') : WP G A t Q' h :=
  .mk fun tk => wpAny_mono (x.run tk) (fun _ _ ⟨h', t', e, q⟩ => ⟨h', t', e, k _ _ q⟩) fun _ _ e => e
/-- take a step's first part, then go on -/
theorem WP.thn {t : Sem α} {P : α → Heap → Prop} {Q : α → Shared → Prop} {tk : Nat} (x : WP G A t P h) (k : ∀ a h' t', P a h' → Q a (sh G h' t')) : wpAny (MD G) A t Q No (sh G h tk) :=
  wpAny_mono (x.run tk) (fun _ _ ⟨_, _, e, q⟩ => e ▸ k _ _ _ q) fun _ _ e => e
theorem WP.pure {a : α} {Q : α → Heap → Prop} (q : Q a h) : WP G A (pure a) Q h := .mk fun tk => wpAny_pure (Po.intro tk q)
theorem WP.bind {m : Sem α} {f : α → Sem β} {Q : β → Heap → Prop} (x : WP G A m (fun a h' => WP G A (f a) Q h') h) : WP G A (m >>= f) Q h :=
  .mk fun _ => wpAny_bind (x.thn fun _ _ t' q => q.run t')
theorem WP.of_eq {t t' : Sem α} {Q : α → Heap → Prop} (e : t = t') (x : WP G A t' Q h) : WP G A t Q h := e ▸ x
theorem CD.mono {c : Code} {R R' : Flow → Heap → Prop} (x : CD G A c R h) (k : ∀ f h', R f h' → R' f h') : CD G A c R' h :=
  .mk fun tk => codeAny_mono (x.run tk) fun _ _ ⟨f, h', t', e, e', q⟩ => ⟨f, h', t', e, e', k _ _ q⟩
/-- what a called def hands back -/
def Ret (R : Value → Heap → Prop) : Flow → Heap → Prop := fun f h' => ∃ v, f = .ret v ∧ R v h'
theorem wp_call {f : Value} {vs : List Value} {Q : Value → Heap → Prop} (x : CD G A (.call f ⟨vs, []⟩) (Ret Q) h) : WP G A (call f vs) Q h := .mk fun tk =>
  wpAny_call (codeAny_mono (x.run tk) fun r s' ⟨f, h', t', e, e', v, ev, q⟩ => by subst e ev; exact ⟨h', t', e', q⟩)
end
/-! ## statements and expressions -/
section
variable {G : Gl} {A : Around} {h : Heap} {env : Env}
theorem x_cons {st : Stmt} {rest : List Stmt} {Q : Flow → Heap → Prop}
    (x : WP G A (exec st env) (fun f h' => match f with | .next => WP G A (execs rest env) Q h' | f => Q f h') h) : WP G A (execs (st :: rest) env) Q h := .mk fun _ =>
  wpAny_execs_cons (x.thn fun f h' t' q => by cases f with | next => exact q.run t' | _ => exact Po.intro _ q)
/-- a statement, then the rest: what comes behind it stands as a name -/
theorem x_seq {st : Stmt} {rest : List Stmt} {Q : Flow → Heap → Prop}
    (x : ∀ K : Flow → Heap → Prop, (∀ h', WP G A (execs rest env) Q h' → K .next h') → (∀ v h', Q (.ret v) h' → K (.ret v) h') → WP G A (exec st env) K h) : WP G A (execs (st :: rest) env) Q h :=
  x_cons (x _ (fun _ q => q) (fun _ _ q => q))
theorem x_nil {Q : Flow → Heap → Prop} (q : Q .next h) : WP G A (execs [] env) Q h := .mk fun tk => wpAny_execs_nil (Po.intro tk q)
theorem x_Ret {e : Expr} {pos : Pos} {Q : Flow → Heap → Prop} (x : WP G A (eval e env) (fun v => Q (.ret v)) h) : WP G A (exec (.Return (some e) pos) env) Q h := .mk fun _ =>
  wpAny_Return_some (x.thn fun _ _ _ q => Po.intro _ q)
theorem x_Assign {n : Str} {pos' : Pos} {value : Expr} {pos : Pos} {Q : Flow → Heap → Prop} (x : WP G A (eval value env) (fun v h' => WP G A (storeName env n v) (fun _ => Q .next) h') h)
    (sw : swapsWith value (some (.Name n pos')) pos.line env = Pure.pure false) : WP G A (exec (.Assign [.Name n pos'] value pos) env) Q h := .mk fun _ =>
  wpAny_Assign_Name (x.thn fun _ _ t' q => (q.thn fun _ _ _ q => Po.intro _ q)) sw
theorem x_If {test : Expr} {body orelse : List Stmt} {pos : Pos} {Q : Flow → Heap → Prop}
    (x : WP G A (isTrue test env (eval test env)) (fun b h' => if b = true then WP G A (execs body env) Q h' else WP G A (execs orelse env) Q h') h) : WP G A (exec (.If test body orelse pos) env) Q h := .mk fun _ =>
  wpAny_If (x.thn fun b h' t' q => by cases b with | true => exact q.run t' | false => exact q.run t')
theorem x_SetSub {o i : Expr} {pos' : Pos} {value : Expr} {pos : Pos} {Q : Flow → Heap → Prop}
    (x : WP G A (eval value env) (fun v h1 => WP G A (eval o env) (fun ov h2 => WP G A (eval i env) (fun iv h3 => WP G A (setItem ov iv v) (fun _ => Q .next) h3) h2) h1) h)
    (sw : swapsWith value (some (.Subscript o i pos')) pos.line env = Pure.pure false) : WP G A (exec (.Assign [.Subscript o i pos'] value pos) env) Q h := .mk fun _ =>
  wpAny_Assign_Subscript (x.thn fun _ _ _ q => q.thn fun _ _ _ q => q.thn fun _ _ _ q => q.thn fun _ _ _ q => Po.intro _ q) sw
theorem e_BinOp {l r : Expr} {op : Operator} {pos : Pos} {Q : Value → Heap → Prop} (x : WP G A (eval l env) (fun a h1 => WP G A (eval r env) (fun b h2 => WP G A (binaryOp op a b) Q h2) h1) h) :
    WP G A (eval (.BinOp l op r pos) env) Q h := .mk fun _ => wpAny_BinOp (x.thn fun _ _ _ q => q.thn fun _ _ t q => q.run t)
theorem e_Cmp {l r : Expr} {op : CmpOp} {pos : Pos} {Q : Value → Heap → Prop} (x : WP G A (eval l env) (fun a h1 => WP G A (eval r env) (fun b h2 => WP G A (compareOp op a b) Q h2) h1) h)
    (hb : behindInMarks op r = false) : WP G A (eval (.Compare l [op] [r] pos) env) Q h := .mk fun _ => wpAny_Compare1 (x.thn fun _ _ _ q => q.thn fun _ _ t q => q.run t) hb
theorem t_Cmp {l r : Expr} {op : CmpOp} {pos : Pos} {whole : Sem Value} {Q : Bool → Heap → Prop}
    (x : WP G A (eval l env) (fun a h1 => WP G A (eval r env) (fun b h2 => WP G A (compareOp op a b) (fun c h3 => WP G A (truthy c) Q h3) h2) h1) h)
    (hb : behindInMarks op r = false) : WP G A (isTrue (.Compare l [op] [r] pos) env whole) Q h := .mk fun _ => wpAny_isTrue_Compare1 (x.thn fun _ _ _ q => q.thn fun _ _ _ q => q.thn fun _ _ t q => q.run t) hb
theorem t_plain {e : Expr} {whole : Sem Value} {Q : Bool → Heap → Prop} (x : WP G A whole (fun v h1 => WP G A (truthy v) Q h1) h)
    (he : isTrue e env whole = do let v ← whole; standAt e.pos; holding [v] (truthy v)) : WP G A (isTrue e env whole) Q h := .mk fun _ => isTrue_plain (x.thn fun _ _ t q => q.run t) he
theorem e_int {i : Int} {k : Nat} {pos : Pos} {Q : Value → Heap → Prop} (q : ∀ t, Q (.int i t) h) : WP G A (eval (.Constant (.int i) k pos) env) Q h := .mk fun tk => wpAny_Constant_int (Po.intro (tk + 1) (q _))
theorem e_str {x : Str} {k : Nat} {pos : Pos} {Q : Value → Heap → Prop} (q : ∀ t, Q (.str x t) h) : WP G A (eval (.Constant (.str x) k pos) env) Q h := .mk fun tk => Constant_str (Po.intro (tk + 1) (q _))
theorem e_Sub {value slice : Expr} {pos : Pos} {Q : Value → Heap → Prop} (x : WP G A (eval value env) (fun o h1 => WP G A (eval slice env) (fun i h2 => WP G A (subscriptTail value slice o i) Q h2) h1) h) :
    WP G A (eval (.Subscript value slice pos) env) Q h := .mk fun _ => Subscript_ (x.thn fun _ _ _ q => q.thn fun _ _ t q => q.run t)
theorem truthy_bool {b : Bool} {Q : Bool → Heap → Prop} (q : Q b h) : WP G A (truthy (.bool b)) Q h := .mk fun tk => wpAny_truthy_bool (Po.intro tk q)
/-! numbers -/
theorem o_add {a b : Int} {t u : Tok} {Q : Value → Heap → Prop} (q : ∀ t, Q (.int (a + b) t) h) : WP G A (binaryOp .Add (.int a t) (.int b u)) Q h := .mk fun tk => add_int (Po.intro (tk + 1) (q _))
theorem o_sub {a b : Int} {t u : Tok} {Q : Value → Heap → Prop} (q : ∀ t, Q (.int (a - b) t) h) : WP G A (binaryOp .Sub (.int a t) (.int b u)) Q h := .mk fun tk => sub_int (Po.intro (tk + 1) (q _))
theorem o_mul {a b : Int} {t u : Tok} {Q : Value → Heap → Prop} (ok : IntMulOk a b) (q : ∀ t, Q (.int (a * b) t) h) : WP G A (binaryOp .Mult (.int a t) (.int b u)) Q h := .mk fun tk => mul_int (Po.intro (tk + 1) (q _)) ok
theorem o_mod {a b : Int} {t u : Tok} {Q : Value → Heap → Prop} (hb : b ≠ 0) (q : ∀ t, Q (.int (a.fmod b) t) h) : WP G A (binaryOp .Mod (.int a t) (.int b u)) Q h := .mk fun tk => mod_int hb (Po.intro (tk + 1) (q _))
theorem o_fdiv {a b : Int} {t u : Tok} {Q : Value → Heap → Prop} (hb : b ≠ 0) (hp : Builtin.divisionGoesByPylong a b = false) (q : ∀ t, Q (.int (a.fdiv b) t) h) : WP G A (binaryOp .FloorDiv (.int a t) (.int b u)) Q h := .mk fun tk => floordiv_int hb (Po.intro (tk + 1) (q _)) (.inl hp)
theorem o_le {a b : Int} {t u : Tok} {Q : Value → Heap → Prop} (q : Q (.bool (decide (a ≤ b))) h) : WP G A (compareOp .LtE (.int a t) (.int b u)) Q h := .mk fun tk => le_int (Po.intro tk q)
theorem o_lt {a b : Int} {t u : Tok} {Q : Value → Heap → Prop} (q : Q (.bool (decide (a < b))) h) : WP G A (compareOp .Lt (.int a t) (.int b u)) Q h := .mk fun tk => lt_int (Po.intro tk q)
theorem o_gt {a b : Int} {t u : Tok} {Q : Value → Heap → Prop} (q : Q (.bool (decide (b < a))) h) : WP G A (compareOp .Gt (.int a t) (.int b u)) Q h := .mk fun tk => gt_int (Po.intro tk q)
theorem o_eq {a b : Int} {t u : Tok} {Q : Value → Heap → Prop} (q : Q (.bool (decide (a = b))) h) : WP G A (compareOp .Eq (.int a t) (.int b u)) Q h := .mk fun tk => eq_int (Po.intro tk q)
theorem o_ne {a b : Int} {t u : Tok} {Q : Value → Heap → Prop} (q : Q (.bool (a != b)) h) : WP G A (compareOp .NotEq (.int a t) (.int b u)) Q h := .mk fun tk => ne_int (Po.intro tk q)
end
/-! ## the state of a frame -/
abbrev Pm := Addr → Option Obj
def Sub (γ γ' : Pm) : Prop := ∀ a o, γ a = some o → γ' a = some o
theorem Sub.refl (γ : Pm) : Sub γ γ := fun _ _ e => e
theorem Sub.trans {a b c : Pm} (x : Sub a b) (y : Sub b c) : Sub a c := fun _ _ e => y _ _ (x _ _ e)
def On (γ : Pm) (h : Heap) : Prop := ∀ a o, γ a = some o → h.get? a = some o
def Gro (γ : Pm) (h : Heap) (γ' : Pm) : Prop := ∀ a o, γ' a = some o → γ a = some o ∨ h.objs.size ≤ a
def Ext (mt : List Addr) (h h' : Heap) : Prop := ∀ a o, h.get? a = some o → a ∉ mt → h'.get? a = some o
structure An where
  γ0 : Pm
  h0 : Heap
  mt : List Addr
abbrev Led := List (Addr × Obj)
abbrev Mp := Str → Option Value
structure St (G : Gl) (an : An) (γ : Pm) (L : Addr) (m : Mp) (led : Led) (h : Heap) : Prop where
  base : ∀ a o, G.hB.get? a = some o → γ a = some o
  sub : Sub an.γ0 γ
  gro : Gro an.γ0 an.h0 γ
  on : On γ h
  ext : Ext an.mt an.h0 h
  ns : h.Ns L m
  gL : γ L = none
  hL : an.h0.objs.size ≤ L
  nw : ∀ p ∈ led, h.get? p.1 = some p.2 ∧ γ p.1 = none ∧ (p.1 ∈ an.mt ∨ an.h0.objs.size ≤ p.1)
  nd : (L :: led.map (·.1)).Nodup
def put (m : Mp) (x : Str) (v : Value) : Mp := fun y => if y = x then some v else m y
def ins (γ : Pm) (a : Addr) (o : Obj) : Pm := fun b => if b = a then some o else γ b
theorem ins_self {γ : Pm} {a : Addr} {o : Obj} : ins γ a o a = some o := if_pos rfl
theorem Sub.ins {γ : Pm} {a : Addr} {o : Obj} (e : γ a = none) : Sub γ (ins γ a o) := fun b x q => by
  unfold Mine.ins
  by_cases hb : b = a
  · subst hb; rw [e] at q; cases q
  · rw [if_neg hb]; exact q
/-- an entry of the ledger changed -/
def chg (led : Led) (d : Addr) (o : Obj) : Led := led.map fun p => if p.1 = d then (d, o) else p
theorem chg_fst (led : Led) (d : Addr) (o : Obj) : (chg led d o).map (·.1) = led.map (·.1) := by
  unfold chg; rw [List.map_map]; refine List.map_congr_left fun p _ => ?_
  by_cases h : p.1 = d <;> simp [h]
theorem mem_chg {led : Led} {d : Addr} {o : Obj} {p : Addr × Obj} (h : p ∈ chg led d o) : p = (d, o) ∨ (p ∈ led ∧ p.1 ≠ d) := by
  obtain ⟨q, hq, rfl⟩ := List.mem_map.mp h
  by_cases e : q.1 = d
  · simp [e]
  · simp [e, hq]
theorem get_lt {h : Heap} {a : Addr} {o : Obj} (e : h.get? a = some o) : a < h.objs.size := Heap.lt_size e
theorem none_of_ge {h : Heap} {a : Addr} (k : h.objs.size ≤ a) : h.get? a = none := by
  cases q : h.get? a with
  | none => rfl
  | some o => exact absurd (get_lt q) (Nat.not_lt.mpr k)
section
variable {G : Gl} {an : An} {γ : Pm} {L : Addr} {m : Mp} {led : Led} {h : Heap}
theorem St.size_none (S : St G an γ L m led h) : γ h.objs.size = none := by
  cases q : γ h.objs.size with
  | none => rfl
  | some o => exact absurd (get_lt (S.on _ _ q)) (Nat.lt_irrefl _)
theorem St.up (S : St G an γ L m led h) : an.h0.objs.size ≤ h.objs.size := Nat.le_trans S.hL (Nat.le_of_lt S.ns.lt)
theorem St.store (S : St G an γ L m led h) {m' : Mp} {h' : Heap} (hn : h'.Ns L m') (hs : Heap.SameBut L h h') : St G an γ L m' led h' where
  base := S.base
  sub := S.sub
  gro := S.gro
  on := fun a o e => (hs.2 a fun q => by rw [q, S.gL] at e; cases e).trans (S.on a o e)
  ext := fun a o e k => (hs.2 a fun q => absurd (get_lt e) (by rw [q]; exact Nat.not_lt.mpr S.hL)).trans (S.ext a o e k)
  ns := hn
  gL := S.gL
  hL := S.hL
  nw := fun p hp => ⟨(hs.2 p.1 fun q => (List.nodup_cons.mp S.nd).1 (q ▸ List.mem_map_of_mem hp)).trans (S.nw p hp).1, (S.nw p hp).2⟩
  nd := S.nd
theorem St.push_led (S : St G an γ L m led h) (o : Obj) (hf : o.isFreed = false) : St G an γ L m ((h.objs.size, o) :: led) (h.push o) where
  base := S.base
  sub := S.sub
  gro := S.gro
  on := fun a x e => Heap.get?_push_of_some o (S.on a x e)
  ext := fun a x e k => Heap.get?_push_of_some o (S.ext a x e k)
  ns := S.ns.push o
  gL := S.gL
  hL := S.hL
  nw := fun p hp => by
    rcases List.mem_cons.mp hp with rfl | hp
    · exact ⟨Heap.get?_push_size _ hf, S.size_none, .inr S.up⟩
    · exact ⟨Heap.get?_push_of_some o (S.nw p hp).1, (S.nw p hp).2⟩
  nd := by
    rw [List.map_cons, List.nodup_cons, List.nodup_cons]
    obtain ⟨n1, n2⟩ := List.nodup_cons.mp S.nd
    refine ⟨fun q => ?_, fun q => ?_, n2⟩
    · rcases List.mem_cons.mp q with q | q
      · exact absurd (q ▸ S.ns.lt) (Nat.lt_irrefl _)
      · exact n1 q
    · obtain ⟨p, hp, e⟩ := List.mem_map.mp q
      exact absurd (e ▸ get_lt (S.nw p hp).1) (Nat.lt_irrefl _)
/-- what will not change any more goes to the kept part -/
theorem St.freeze {a : Addr} {o : Obj} (S : St G an γ L m ((a, o) :: led) h) (ha : an.h0.objs.size ≤ a) : St G an (ins γ a o) L m led h where
  base := fun b x e => Sub.ins (S.nw _ (.head _)).2.1 b x (S.base b x e)
  sub := S.sub.trans (Sub.ins (S.nw _ (.head _)).2.1)
  gro := fun b x e => by
    unfold ins at e
    by_cases hb : b = a
    · subst hb; exact .inr ha
    · rw [if_neg hb] at e; exact S.gro b x e
  on := fun b x e => by
    unfold ins at e
    by_cases hb : b = a
    · subst hb; rw [if_pos rfl] at e; cases e; exact (S.nw _ (.head _)).1
    · rw [if_neg hb] at e; exact S.on b x e
  ext := S.ext
  ns := S.ns
  gL := by
    have : L ≠ a := fun q => by have := (List.nodup_cons.mp S.nd).1; rw [q] at this; exact this (by simp)
    unfold ins; rw [if_neg this]; exact S.gL
  hL := S.hL
  nw := fun p hp => by
    refine ⟨(S.nw p (.tail _ hp)).1, ?_, (S.nw p (.tail _ hp)).2.2⟩
    have n2 := (List.nodup_cons.mp S.nd).2
    rw [List.map_cons, List.nodup_cons] at n2
    have : p.1 ≠ a := fun q => n2.1 (q ▸ List.mem_map_of_mem (f := (·.1)) hp)
    unfold ins; rw [if_neg this]; exact (S.nw p (.tail _ hp)).2.1
  nd := by
    obtain ⟨n1, n2⟩ := List.nodup_cons.mp S.nd
    rw [List.map_cons, List.nodup_cons] at n2
    rw [List.map_cons] at n1
    exact List.nodup_cons.mpr ⟨fun q => n1 (.tail _ q), n2.2⟩
theorem St.upd (S : St G an γ L m led h) {d : Addr} {o o' : Obj} {h' : Heap} (hd : (d, o) ∈ led) (hs : Heap.SameBut d h h') (he : h'.get? d = some o') : St G an γ L m (chg led d o') h' := by
  have D := S.nw _ hd
  have hLd : L ≠ d := fun q => (List.nodup_cons.mp S.nd).1 (q ▸ List.mem_map_of_mem (f := (·.1)) hd)
  exact {
  base := S.base
  sub := S.sub
  gro := S.gro
  on := fun a x e => (hs.2 a fun q => by rw [q, D.2.1] at e; cases e).trans (S.on a x e)
  ext := fun a x e k => (hs.2 a fun q => by
    rcases D.2.2 with q' | q'
    · exact k (q ▸ q')
    · exact absurd (get_lt e) (by rw [q]; exact Nat.not_lt.mpr q')).trans (S.ext a x e k)
  ns := S.ns.sameBut hs hLd
  gL := S.gL
  hL := S.hL
  nw := fun p hp => by
    rcases mem_chg hp with rfl | ⟨hp, hne⟩
    · exact ⟨he, D.2⟩
    · exact ⟨(hs.2 p.1 hne).trans (S.nw p hp).1, (S.nw p hp).2⟩
  nd := by rw [chg_fst]; exact S.nd }
theorem St.get (S : St G an γ L m led h) {a : Addr} {o : Obj} (e : γ a = some o) : h.get? a = some o := S.on _ _ e
theorem St.led_get (S : St G an γ L m led h) {a : Addr} {o : Obj} (e : (a, o) ∈ led) : h.get? a = some o := (S.nw _ e).1
theorem St.keepB (S : St G an γ L m led h) : ∀ b o, G.hB.get? b = some o → h.get? b = some o := fun b o e => S.on b o (S.base b o e)
end
/-- what a call leaves behind -/
structure Post (γ : Pm) (h : Heap) (mt : List Addr) (γ' : Pm) (h' : Heap) : Prop where
  sub : Sub γ γ'
  gro : Gro γ h γ'
  on : On γ' h'
  ext : Ext mt h h'
  up : h.objs.size ≤ h'.objs.size
theorem St.post {G : Gl} {γ0 γ : Pm} {h0 h : Heap} {mt : List Addr} {L : Addr} {m : Mp} {led : Led} (S : St G ⟨γ0, h0, mt⟩ γ L m led h) : Post γ0 h0 mt γ h :=
  ⟨S.sub, S.gro, S.on, S.ext, S.up⟩
/-- the caller's state behind a call: xs is the caller's own, cs what the call may turn -/
theorem St.after {G : Gl} {an : An} {γ γ' : Pm} {L : Addr} {m : Mp} {xs cs cs' : Led} {h h' : Heap} (S : St G an γ L m (xs ++ cs) h) (P : Post γ h (cs.map (·.1)) γ' h')
    (hc : cs'.map (·.1) = cs.map (·.1)) (at' : ∀ p ∈ cs', h'.get? p.1 = some p.2) : St G an γ' L m (xs ++ cs') h' := by
  have n1 := (List.nodup_cons.mp S.nd).1
  have n2 := (List.nodup_cons.mp S.nd).2
  rw [List.map_append] at n1 n2
  have nL : L ∉ cs.map (·.1) := fun q => n1 (List.mem_append.mpr (.inr q))
  have fresh : ∀ a o, γ a = none → h.get? a = some o → γ' a = none := fun a o e q => by
    cases q' : γ' a with
    | none => rfl
    | some x => rcases P.gro a x q' with z | z
                · rw [e] at z; cases z
                · exact absurd (get_lt q) (Nat.not_lt.mpr z)
  have old : ∀ p ∈ cs', ∃ o, (p.1, o) ∈ cs := fun p hp => by
    have : p.1 ∈ cs.map (·.1) := hc ▸ List.mem_map_of_mem hp
    obtain ⟨q, hq, e⟩ := List.mem_map.mp this
    exact ⟨q.2, e ▸ hq⟩
  have oldmut : ∀ a ∈ cs.map (·.1), a ∈ an.mt ∨ an.h0.objs.size ≤ a := fun a ha => by
    obtain ⟨q, hq, e⟩ := List.mem_map.mp ha
    exact e ▸ (S.nw q (List.mem_append.mpr (.inr hq))).2.2
  exact {
  base := fun a o e => P.sub _ _ (S.base a o e)
  sub := S.sub.trans P.sub
  gro := fun a o e => by
    rcases P.gro a o e with z | z
    · exact S.gro a o z
    · exact .inr (Nat.le_trans S.up z)
  on := P.on
  ext := fun a o e k => by
    by_cases ha : a ∈ cs.map (·.1)
    · rcases oldmut a ha with z | z
      · exact absurd z k
      · exact absurd (get_lt e) (Nat.not_lt.mpr z)
    · exact P.ext a o (S.ext a o e k) ha
  ns := by
    obtain ⟨o, es, ep, e, r⟩ := S.ns
    exact ⟨o, es, ep, P.ext L o e nL, r⟩
  gL := by obtain ⟨o, _, _, e, _⟩ := S.ns; exact fresh L o S.gL e
  hL := S.hL
  nw := fun p hp => by
    rcases List.mem_append.mp hp with hp | hp
    · have z := S.nw p (List.mem_append.mpr (.inl hp))
      have : p.1 ∉ cs.map (·.1) := fun q => by
        exact (List.nodup_append.mp n2).2.2 _ (List.mem_map_of_mem hp) _ q rfl
      exact ⟨P.ext _ _ z.1 this, fresh _ _ z.2.1 z.1, z.2.2⟩
    · obtain ⟨o, ho⟩ := old p hp
      have z := S.nw _ (List.mem_append.mpr (.inr ho))
      exact ⟨at' p hp, fresh _ _ z.2.1 z.1, z.2.2⟩
  nd := by rw [List.map_append, hc, ← List.map_append]; exact S.nd }
def puts (m : Mp) (l : List (Str × Value)) : Mp := l.foldl (fun m p => put m p.1 p.2) m
theorem puts_eq (l : List (Str × Value)) : (fun x => l.reverse.lookup x) = puts (fun _ => none) l := by
  have key : ∀ (l : List (Str × Value)) (r : List (Str × Value)), (fun x => (l.reverse ++ r).lookup x) = puts (fun x => r.lookup x) l := by
    intro l
    induction l with
    | nil => intro r; rfl
    | cons p l ih =>
      intro r
      have := ih (p :: r)
      rw [List.reverse_cons, List.append_assoc]
      show (fun x => (l.reverse ++ (p :: r)).lookup x) = puts (put (fun x => r.lookup x) p.1 p.2) l
      rw [this]
      congr 1
      funext y
      obtain ⟨a, b⟩ := p
      unfold put
      rw [List.lookup_cons]
      by_cases hy : y = a
      · subst hy; simp
      · have : (y == a) = false := by simpa using hy
        simp [this, hy]
  have := key l []
  rw [List.append_nil] at this
  exact this
structure Gd (G : Gl) : Prop where
  kin : (KF G.w.params).In G.hB
  top : Top qv (looseW qv []) G.mean G.mg G.mb G.hB
structure Room (A : Around) (n : Nat) : Prop where
  d : A.depth + n < recursionLimit
  u : A.units + 60 * n < cLine
  h : A.handled = none
theorem Room.deeper {A : Around} {n : Nat} {e : Env} (R : Room A (n + 1)) : Room (A.deeper e) n :=
  ⟨by have := R.d; show A.depth + 1 + n < _; omega, by have := R.u; show A.units + 3 + 60 * n < _; omega, R.h⟩
theorem Room.less {A : Around} {n k : Nat} (R : Room A n) (hk : k ≤ n) : Room A k := ⟨by have := R.d; omega, by have := R.u; omega, R.h⟩
section
variable {G : Gl} {A : Around} {h : Heap} {env : Env} {an : An} {γ : Pm} {L : Addr} {m : Mp} {led : Led}
theorem St.kin (S : St G an γ L m led h) (D : Gd G) : (KF G.w.params).In h := D.kin.keeps S.keepB
/-! names -/
/-- the frame's own place: an env of a def's body -/
structure EOk (sc : Scope) (en : Env) (L : Addr) : Prop where
  loc : en.locals = L
  sco : en.scope = sc
  glo : en.globals = mainGlobals
  bui : en.builtins = builtinsNs
  fn : sc.kind = .function
theorem EOk.kd {sc : Scope} {en : Env} {L : Addr} (E : EOk sc en L) {x : Str} {k : NameKind} (e : sc.names.lookup x = some k) : en.kindOf x = some k := by
  show en.scope.names.lookup x = some k
  rw [E.sco]; exact e
theorem EOk.kf {sc : Scope} {en : Env} {L : Addr} (E : EOk sc en L) : en.scope.kind = .function := by rw [E.sco]; exact E.fn
theorem n_loc {sc : Scope} {x : Str} {pos : Pos} {v : Value} {Q : Value → Heap → Prop} (S : St G an γ L m led h) (E : EOk sc env L) (hv : m x = some v) (q : Q v h)
    (hx : sc.names.lookup x = some .local) (hd : (x == ("__debug__" : Str)) = false) : WP G A (eval (.Name x pos) env) Q h := .mk fun tk =>
  wpAny_Name (wpAny_loadName_local E.kf (E.kd hx) (E.loc ▸ S.ns) hv (Po.intro tk q)) hd
theorem n_glob (D : Gd G) {sc : Scope} {x : Str} {pos : Pos} {v : Value} {Q : Value → Heap → Prop} (S : St G an γ L m led h) (E : EOk sc env L) (e : nsIn (KF G.w.params) mainGlobals x = some (some v)) (q : Q v h)
    (hx : sc.names.lookup x = some .globalImplicit) (hd : (x == ("__debug__" : Str)) = false) : WP G A (eval (.Name x pos) env) Q h := .mk fun tk =>
  Name_function_global E.kf (E.kd hx) (loadGlobal_global (env := env) (by rw [E.glo]; exact D.top.g.keeps S.keepB) (mg_of D.kin D.top.g e) (Po.intro tk q)) hd
theorem n_bi (D : Gd G) {sc : Scope} {x : Str} {pos : Pos} {v : Value} {Q : Value → Heap → Prop} (S : St G an γ L m led h) (E : EOk sc env L) (e : nsIn (KF G.w.params) mainGlobals x = some none)
    (hv : bootBuiltins x = some v) (hn : x ≠ "__name__") (q : Q v h)
    (hx : sc.names.lookup x = some .globalImplicit) (hd : (x == ("__debug__" : Str)) = false) : WP G A (eval (.Name x pos) env) Q h := .mk fun tk =>
  Name_function_global E.kf (E.kd hx) (loadGlobal_builtin (env := env) (by rw [E.glo]; exact D.top.g.keeps S.keepB) (mg_none_of D.kin D.top.g e) (by rw [E.bui]; exact D.top.b.keeps S.keepB) ((D.top.builtins x hn).trans hv) (Po.intro tk q)) hd
theorem n_store {sc : Scope} {x : Str} {v : Value} {Q : Unit → Heap → Prop} (S : St G an γ L m led h) (E : EOk sc env L) (k : ∀ h', St G an γ L (put m x v) led h' → Q () h')
    (hx : sc.names.lookup x = some .local) : WP G A (storeName env x v) Q h := .mk fun tk =>
  wpAny_storeName_local (E.kd hx) (E.loc ▸ S.ns) (fun h' hn hs => Po.intro (tk + 1) (k h' (S.store (E.loc ▸ hn) (E.loc ▸ hs)))) (by
    show (env.scope.kind == .class || (env.scope.kind == .module && env.locals != env.globals)) = false
    rw [E.kf]; rfl)
/-! calls -/
theorem s_nil {pos : Pos} {R : List Value → Heap → Prop} (q : R [] h) : WP G A (spliced (backTo pos (starEach [] env))) R h := .mk fun tk => Calls.spliced_nil (Po.intro tk q)
theorem s_cons {e : Expr} {rest : List Expr} {pos : Pos} {R : List Value → Heap → Prop}
    (x : WP G A (eval e env) (fun v h1 => WP G A (spliced (backTo pos (starEach rest env))) (fun vs => R (v :: vs)) h1) h)
    (he : starEach (e :: rest) env = (false, eval e env) :: starEach rest env) : WP G A (spliced (backTo pos (starEach (e :: rest) env))) R h := .mk fun _ => by
  rw [he]; exact Calls.spliced_cons (x.thn fun _ _ _ q => q.thn fun _ _ _ q => Po.intro _ q)
theorem e_Call {func : Expr} {args : List Expr} {pos : Pos} {Q : Value → Heap → Prop}
    (x : WP G A (eval func env) (fun f h1 => WP G A (callWith pos f [] (backTo pos (starEach args env)) []) Q h1) h)
    (he : eval (.Call func args [] pos) env = (do callWith pos (← eval func env) [] (backTo pos (starEach args env)) (backToKw pos (keywordEach [] env)))) : WP G A (eval (.Call func args [] pos) env) Q h := .mk fun _ =>
  Call_ (x.thn fun _ _ t q => q.run t) he
theorem e_Meth {o : Expr} {name : Str} {apos pos : Pos} {args : List Expr} {pl : Sem Bool} {Q : Value → Heap → Prop}
    (x : WP G A (eval o env) (fun ov h1 => WP G A (getMethod ov name pl) (fun fx h2 => WP G A (callWith pos fx.1 fx.2 (backTo pos (starEach args env)) []) Q h2) h1) h)
    (he : eval (.Call (.Attribute o name apos) args [] pos) env = (do
      let ov ← eval o env
      standAt apos.atName
      let (f, first) ← holding [ov] (getMethod ov name pl)
      callWith pos f first (backTo pos (starEach args env)) [])) : WP G A (eval (.Call (.Attribute o name apos) args [] pos) env) Q h := .mk fun _ =>
  MethodCall_ (x.thn fun _ _ _ q => q.thn fun _ _ t q => q.run t) he
theorem plain_star {args : List (Bool × Sem Value)} {pos : Pos} (h : (args.any (·.1)) = false) : (backTo pos args).any (·.1) = false := by
  unfold backTo
  rw [List.any_map]; exact h
/-- a callee that is a def of the text -/
theorem cw_K (D : Gd G) {f : Value} {first : List Value} {e : Expr} {rest : List Expr} {pos : Pos} {Q : Value → Heap → Prop} (hk : keepIn (KF G.w.params) f = true)
    (x : WP G A (spliced (backTo pos (starEach (e :: rest) env))) (fun vs h1 => (KF G.w.params).In h1 ∧ WP G A (call f (first ++ vs)) Q h1) h)
    (he : starEach (e :: rest) env = (false, eval e env) :: starEach rest env) (hp : (backTo pos (starEach rest env)).any (·.1) = false) :
    WP G A (callWith pos f first (backTo pos (starEach (e :: rest) env)) []) Q h := .mk fun _ =>
  callWith_K D.kin hk (x.thn fun _ _ t q => ⟨q.1, q.2.run t⟩) he hp
theorem cw_K0 {f : Value} {first : List Value} {pos : Pos} {Q : Value → Heap → Prop} (X : (KF G.w.params).In h) (hk : keepIn (KF G.w.params) f = true)
    (x : WP G A (call f (first ++ [])) Q h) : WP G A (callWith pos f first (backTo pos (starEach [] env)) []) Q h := .mk fun t => callWith_K0 X hk (x.run t)
/-- a callee that is no object of the heap -/
theorem cw_B {f : Value} {first : List Value} {e : Expr} {rest : List Expr} {pos : Pos} {Q : Value → Heap → Prop} (hf : keeperOf f = Pure.pure .machine)
    (x : WP G A (spliced (backTo pos (starEach (e :: rest) env))) (fun vs h1 => WP G A (call f (first ++ vs)) Q h1) h)
    (he : starEach (e :: rest) env = (false, eval e env) :: starEach rest env) (hp : (backTo pos (starEach rest env)).any (·.1) = false) :
    WP G A (callWith pos f first (backTo pos (starEach (e :: rest) env)) []) Q h := .mk fun tk => by
  have x' := x.run tk
  rw [he] at x' ⊢
  exact callWith_of (P := fun _ => True) (by show ((false || (backTo pos (starEach rest env)).any (·.1)) || false) = false; rw [hp]; rfl) (fun _ _ => ⟨.machine, .inr (.inl rfl), Looks.of_pure hf⟩)
    (evalArgs_plain (wpAny_mono x' (fun _ _ ⟨_, t, e, q⟩ => ⟨trivial, e ▸ q.run t⟩) fun _ _ e => e))
theorem cw_B0 {f : Value} {first : List Value} {pos : Pos} {Q : Value → Heap → Prop} (hf : keeperOf f = Pure.pure .machine)
    (x : WP G A (call f (first ++ [])) Q h) : WP G A (callWith pos f first (backTo pos (starEach [] env)) []) Q h := .mk fun tk =>
  callWith_of (P := fun _ => True) rfl (fun _ _ => ⟨.machine, .inr (.inl rfl), Looks.of_pure hf⟩) (evalArgs_nil3 ⟨trivial, x.run tk⟩)
end
/-! a def of the text, called -/
abbrev fnD (st : Stmt) (nm ql : Str) (pm cd : Value) : FuncData := { name := nm, qualname := ql, params := fPar st, body := .stmts (fBod st), scope := fSco st, globals := 3, closure := [], defaults := .none, kwdefaults := .none, pyModule := pm, code := cd, builtins := 0 }
def envF (st : Stmt) (nm ql : Str) (pm cd : Value) (f L : Addr) : Env := callEnv (fnD st nm ql pm cd) L f
section
variable {G : Gl} {A : Around} {h : Heap} {γ : Pm} {cs : Led}
/-- what stands at a call -/
structure Sit (G : Gl) (γ : Pm) (cs : Led) (h : Heap) : Prop where
  base : ∀ a o, G.hB.get? a = some o → γ a = some o
  on : On γ h
  at_ : ∀ p ∈ cs, h.get? p.1 = some p.2 ∧ γ p.1 = none
  nd : (cs.map (·.1)).Nodup
theorem St.sit {an : An} {L : Addr} {m : Mp} {xs : Led} (S : St G an γ L m (xs ++ cs) h) : Sit G γ cs h where
  base := S.base
  on := S.on
  at_ := fun p hp => let z := S.nw p (List.mem_append.mpr (.inr hp)); ⟨z.1, z.2.1⟩
  nd := by
    have n2 := (List.nodup_cons.mp S.nd).2
    rw [List.map_append] at n2
    exact (List.nodup_append.mp n2).2.1
theorem call_def (D : Gd G) (T : Sit G γ cs h) {st : Stmt} {nm ql : Str} {pm cd : Value} {f : Addr} {vals : List Value} {binds : List (Str × Value)} {R : Value → Heap → Prop} {n : Nat} (hr : Room A (n + 1))
    (ho : (KF G.w.params).lookup f = some (fnO st nm ql pm cd)) (hcd : codeIn (KF G.w.params) cd ql = true) (hbind : bindArgs (fnD st nm ql pm cd) ⟨vals, []⟩ = Pure.pure binds)
    (hcell : ∀ x ∈ (fSco st).names, x.2 ≠ .cell) (hloc : ∀ x ∈ binds, (fSco st).names.lookup x.1 = some .local)
    (hco : (fSco st).isCoroutine = false) (hgen : (fSco st).isGenerator = false) (hk : (fSco st).kind = .function)
    (body : ∀ an L h₁ en A', EOk (fSco st) en L → Room A' n → (∀ γ' m' led' h', St G an γ' L m' led' h' → Post γ h (cs.map (·.1)) γ' h') →
      St G an γ L (puts (fun _ => none) binds) cs h₁ → WP G A' (execs (fBod st) en) (fun fl h' => R (match fl with | .ret v => v | _ => .none) h') h₁) :
    CD G A (.call (.ref f) ⟨vals, []⟩) (Ret R) h := .mk fun tk => by
  have X : (KF G.w.params).In h := D.kin.keeps fun b o e => T.on _ _ (T.base b o e)
  have hk0 : ∀ b o, G.hB.get? b = some o → h.get? b = some o := fun b o e => T.on _ _ (T.base b o e)
  refine codeAny_call_def (fd := fnD st nm ql pm cd) (body := fBod st) (binds := binds) (by have := hr.d; omega) (X _ _ ho) rfl (D.top.nolimit.keeps hk0) (codeRec_of X hcd) rfl (BindsTo.of_eq hbind) hcell hloc (fun h₀ hns hk₁ => ?_) hco hgen hk
  have S : St G ⟨γ, h, cs.map (·.1)⟩ γ h.objs.size (fun x => binds.reverse.lookup x) cs h₀ := {
    base := T.base
    sub := Sub.refl γ
    gro := fun a o e => .inl e
    on := fun a o e => hk₁ _ _ (T.on a o e)
    ext := fun a o e _ => hk₁ _ _ e
    ns := hns
    gL := by
      cases q : γ h.objs.size with
      | none => rfl
      | some o => exact absurd (get_lt (T.on _ _ q)) (Nat.lt_irrefl _)
    hL := Nat.le_refl _
    nw := fun p hp => ⟨hk₁ _ _ (T.at_ p hp).1, (T.at_ p hp).2, .inl (List.mem_map_of_mem hp)⟩
    nd := List.nodup_cons.mpr ⟨fun q => by
      obtain ⟨p, hp, e⟩ := List.mem_map.mp q
      exact absurd (e ▸ get_lt (T.at_ p hp).1) (Nat.lt_irrefl _), T.nd⟩ }
  rw [puts_eq] at S
  refine wpAny_mono ((body _ _ h₀ _ _ ⟨rfl, rfl, rfl, rfl, hk⟩ hr.deeper (fun _ _ _ _ S' => S'.post) S).run (tk + binds.length)) (fun fl s' ⟨h', t', e, q⟩ => ⟨_, h', t', rfl, e, _, rfl, q⟩) fun _ _ e => e.elim
end
theorem ofString_inj {a b : String} (e : Str.ofString a = Str.ofString b) : a = b := by
  rw [Str.ofString_eq_byList] at e
  unfold Str.ofStringByList at e
  simp only [Str.mk.injEq] at e
  have e2 := congrArg Array.toList e
  simp only at e2
  have e3 : a.toList = b.toList := (List.map_inj_right (fun x y h => Char.toNat_inj.mp h)).mp e2
  exact String.toList_inj.mp e3
theorem sne {a b : String} (e : (a == b) = false) : Str.ofString a ≠ Str.ofString b := fun q => by rw [ofString_inj q] at e; simp at e
theorem put_self {m : Mp} {x : Str} {v : Value} : put m x v x = some v := if_pos rfl
theorem put_ne {m : Mp} {x y : Str} {v u : Value} (e : y ≠ x) (k : m y = some v) : put m x u y = some v := (if_neg e).trans k
/-! things in the heap -/
def lo (vs : List Value) (n : Nat) : Obj := { cls := .type "list", data := .seq vs.toArray n }
def tu (vs : List Value) (n : Nat) : Obj := { cls := .type "tuple", data := .seq vs.toArray n }
section
variable {G : Gl} {A : Around} {h : Heap}
theorem lo_list {a : Addr} {vs : List Value} {n : Nat} (e : h.get? a = some (lo vs n)) : h.IsList a vs.toArray := ⟨_, e, rfl, n, rfl⟩
theorem typ {a : Addr} {o : Obj} {T : String} {t : Nat} (e : h.get? a = some o) (c : o.cls = .type T) : (sh G h t).TypeIs (.ref a) T := ⟨o, e, c⟩
abbrev Skd (G : Gl) := PySem.strKind pw G.w
abbrev Ikd (G : Gl) := PySem.intKind pw G.w
/-- subscripts: the value that stands there -/
theorem i_list {value slice : Expr} {a : Addr} {vs : List Value} {n : Nat} {k : Int} {u : Tok} {v : Value} {Q : Value → Heap → Prop} (e : h.get? a = some (lo vs n)) (h0 : 0 ≤ k) (h1 : k < 2 ^ 63) (hv : vs[k.toNat]? = some v) (q : Q v h)
    (hs : subscripted slice false (.ref a) (.int k u) = operate [.ref a, .int k u] (getItem (.ref a) (.int k u))) : WP G A (subscriptTail value slice (.ref a) (.int k u)) Q h := .mk fun tk =>
  tail_any (typ e rfl) slot_list_getitem.lookup (wpAny_getItem_list (lo_list e) h0 h1 (by simpa using hv) (Po.intro tk q)) hs
theorem i_listn {value slice : Expr} {a : Addr} {vs : List Value} {n : Nat} {k : Int} {u : Tok} {v : Value} {Q : Value → Heap → Prop} (e : h.get? a = some (lo vs n)) (h0 : k < 0) (h2 : -(vs.length : Int) ≤ k) (h1 : -2 ^ 63 ≤ k) (hv : vs[(k + vs.length).toNat]? = some v) (q : Q v h)
    (hs : subscripted slice false (.ref a) (.int k u) = operate [.ref a, .int k u] (getItem (.ref a) (.int k u))) : WP G A (subscriptTail value slice (.ref a) (.int k u)) Q h := .mk fun tk =>
  tail_any (typ e rfl) slot_list_getitem.lookup (wpAny_getItem_list_neg (lo_list e) (by first | exact h0 | simpa using h0) (by first | exact h1 | simpa using h2) (by first | simpa using h2 | simpa using h1) (by simpa using hv) (Po.intro tk q)) hs
theorem i_tup {value slice : Expr} {a : Addr} {vs : List Value} {n : Nat} {k : Int} {u : Tok} {v : Value} {j : Nat} {Q : Value → Heap → Prop} (e : h.get? a = some (tu vs n)) (h0 : -2 ^ 63 ≤ k) (h1 : k < 2 ^ 63) (hj : seqIndex? k vs.length = some j) (hv : vs[j]? = some v) (q : Q v h)
    (hs : subscripted slice false (.ref a) (.int k u) = operate [.ref a, .int k u] (getItem (.ref a) (.int k u))) : WP G A (subscriptTail value slice (.ref a) (.int k u)) Q h := .mk fun tk =>
  item_tupleT ⟨_, e, rfl, _, rfl⟩ h0 h1 hj hv (Po.intro tk q) hs
theorem i_dicts {value slice : Expr} {d : Addr} {o : Obj} {kvs : List (Str × Value)} {k : Str} {u : Tok} {v : Value} {Q : Value → Heap → Prop} (e : h.get? d = some o) (hd : o.IsDictOf (Skd G) kvs) (hv : valueAt kvs k = some v) (q : Q v h)
    (hs : subscripted slice false (.ref d) (.str k u) = operate [.ref d, .str k u] (getItem (.ref d) (.str k u))) : WP G A (subscriptTail value slice (.ref d) (.str k u)) Q h := .mk fun tk =>
  have hD : h.DictOf (Skd G) d kvs := Heap.dictOf_iff.mpr ⟨o, e, hd⟩
  tail_any hD.typeIs slot_dict_getitem.lookup (wpAny_getItem_of (s := sh G h tk) (strKind_is _ _ _ _) hD.mapOf hv (Po.intro (tk + 1) q)) hs
theorem i_dicti {value slice : Expr} {d : Addr} {o : Obj} {kvs : List (Int × Value)} {k : Int} {u : Tok} {v : Value} {Q : Value → Heap → Prop} (e : h.get? d = some o) (hd : o.IsDictOf (Ikd G) kvs) (hv : valueAt kvs k = some v) (q : Q v h)
    (hs : subscripted slice false (.ref d) (.int k u) = operate [.ref d, .int k u] (getItem (.ref d) (.int k u))) : WP G A (subscriptTail value slice (.ref d) (.int k u)) Q h := .mk fun tk =>
  have hD : h.DictOf (Ikd G) d kvs := Heap.dictOf_iff.mpr ⟨o, e, hd⟩
  tail_any hD.typeIs slot_dict_getitem.lookup (wpAny_getItem_of (s := sh G h tk) (intKind_is _ _ _ _) hD.mapOf hv (Po.intro (tk + 1) q)) hs
variable {an : An} {γ : Pm} {L : Addr} {m : Mp} {led : Led}
theorem set_dicts {d : Addr} {o : Obj} {kvs : List (Str × Value)} {k : Str} {u : Tok} {v : Value} {Q : Unit → Heap → Prop} (S : St G an γ L m led h) (hm : (d, o) ∈ led) (hd : o.IsDictOf (Skd G) kvs) (hz : kvs.length ≤ sizeLine)
    (q : ∀ o' h', o'.IsDictOf (Skd G) (stored kvs k v) → St G an γ L m (chg led d o') h' → Q () h') : WP G A (setItem (.ref d) (.str k u) v) Q h := .mk fun tk =>
  wpAny_setItem_pairs (hsz := hz) (s := sh G h tk) (strKind_is _ _ _ _) (Heap.dictOf_iff.mpr ⟨o, S.led_get hm, hd⟩) fun h' hmm hs => by
    obtain ⟨o', ho', hd'⟩ := Heap.dictOf_iff.mp hmm
    exact Po.intro (tk + 1) (q o' h' hd' (S.upd hm hs ho'))
theorem set_dicti {d : Addr} {o : Obj} {kvs : List (Int × Value)} {k : Int} {u : Tok} {v : Value} {Q : Unit → Heap → Prop} (S : St G an γ L m led h) (hm : (d, o) ∈ led) (hd : o.IsDictOf (Ikd G) kvs) (hz : kvs.length ≤ sizeLine)
    (q : ∀ o' h', o'.IsDictOf (Ikd G) (stored kvs k v) → St G an γ L m (chg led d o') h' → Q () h') : WP G A (setItem (.ref d) (.int k u) v) Q h := .mk fun tk =>
  wpAny_setItem_pairs (hsz := hz) (s := sh G h tk) (intKind_is _ _ _ _) (Heap.dictOf_iff.mpr ⟨o, S.led_get hm, hd⟩) fun h' hmm hs => by
    obtain ⟨o', ho', hd'⟩ := Heap.dictOf_iff.mp hmm
    exact Po.intro (tk + 1) (q o' h' hd' (S.upd hm hs ho'))
theorem c_len {a : Addr} {vs : List Value} {n : Nat} {Q : Value → Heap → Prop} (e : h.get? a = some (lo vs n)) (hz : vs.length < 2 ^ 62) (q : ∀ t, Q (.int vs.length t) h) : WP G A (call (.builtin "len") [.ref a]) Q h := .mk fun tk =>
  call_len_list (lo_list e) (by simp only [List.size_toArray]; omega) (by rw [List.size_toArray]; exact Po.intro (tk + 2) (q _))
end
theorem chg_head {led : Led} {d : Addr} {o o' : Obj} (nd : (((d, o) :: led).map (·.1)).Nodup) : chg ((d, o) :: led) d o' = (d, o') :: led := by
  rw [List.map_cons, List.nodup_cons] at nd
  unfold chg
  rw [List.map_cons]
  simp only [if_true, List.cons.injEq, true_and]
  refine (List.map_congr_left fun p hp => ?_).trans (List.map_id led)
  have : p.1 ≠ d := fun q => nd.1 (q ▸ List.mem_map_of_mem (f := (·.1)) hp)
  simp [this]
section
variable {K : Type} [DecidableEq K]
theorem va_head {k : K} {v : Value} {r : List (K × Value)} : valueAt ((k, v) :: r) k = some v := by simp [valueAt]
theorem va_tail {k k' : K} {v u : Value} {r : List (K × Value)} (e : k ≠ k') (x : valueAt r k = some v) : valueAt ((k', u) :: r) k = some v := by
  unfold valueAt; simp [Ne.symm e]; simpa [valueAt] using x
end
theorem small {n : Nat} (h : n ≤ 16000000) : n ≤ sizeLine := by rw [sizeLine_eq]; omega
theorem ns_len (P : Params) : nsIn (KF P) mainGlobals (Str.ofString "len") = some none := by kernel_rfl
theorem ns_range (P : Params) : nsIn (KF P) mainGlobals (Str.ofString "range") = some none := by kernel_rfl
theorem ns_min (P : Params) : nsIn (KF P) mainGlobals (Str.ofString "min") = some none := by kernel_rfl
theorem ns_max (P : Params) : nsIn (KF P) mainGlobals (Str.ofString "max") = some none := by kernel_rfl
theorem ns_int (P : Params) : nsIn (KF P) mainGlobals (Str.ofString "int") = some none := by kernel_rfl
theorem ns_list (P : Params) : nsIn (KF P) mainGlobals (Str.ofString "list") = some none := by kernel_rfl
theorem ns_reversed (P : Params) : nsIn (KF P) mainGlobals (Str.ofString "reversed") = some none := by kernel_rfl
theorem ns_tuple (P : Params) : nsIn (KF P) mainGlobals (Str.ofString "tuple") = some none := by kernel_rfl
theorem ns_dict (P : Params) : nsIn (KF P) mainGlobals (Str.ofString "dict") = some none := by kernel_rfl
theorem ns_enumerate (P : Params) : nsIn (KF P) mainGlobals (Str.ofString "enumerate") = some none := by kernel_rfl
theorem ns__law_next (P : Params) : nsIn (KF P) mainGlobals (Str.ofString "_law_next") = some (some (.ref 631)) := by kernel_rfl
theorem ns__law_part (P : Params) : nsIn (KF P) mainGlobals (Str.ofString "_law_part") = some (some (.ref 636)) := by kernel_rfl
theorem ns__law_chain (P : Params) : nsIn (KF P) mainGlobals (Str.ofString "_law_chain") = some (some (.ref 643)) := by kernel_rfl
theorem ns__law_are_told (P : Params) : nsIn (KF P) mainGlobals (Str.ofString "_law_are_told") = some (some (.ref 650)) := by kernel_rfl
theorem ns__law_truth (P : Params) : nsIn (KF P) mainGlobals (Str.ofString "_law_truth") = some (some (.ref 655)) := by kernel_rfl
theorem ns_BoolBank (P : Params) : nsIn (KF P) mainGlobals (Str.ofString "BoolBank") = some (some (.ref 622)) := by kernel_rfl
theorem ns_BoolClauses (P : Params) : nsIn (KF P) mainGlobals (Str.ofString "BoolClauses") = some (some (.ref 300)) := by kernel_rfl
theorem ns_ClauseStore (P : Params) : nsIn (KF P) mainGlobals (Str.ofString "ClauseStore") = some (some (.ref 160)) := by kernel_rfl
theorem ns_BOOL (P : Params) : nsIn (KF P) mainGlobals (Str.ofString "BOOL") = some (some (.int 0 600)) := by kernel_rfl
theorem ints_at {vs : List Value} {ns : List Int} (hI : IntsAre vs ns) : ∀ {i : Nat}, i < vs.length → ∃ n t, vs[i]? = some (.int n t) := by
  induction hI with
  | nil => intro i h; simp at h
  | cons n t _ ih =>
    intro i h
    cases i with
    | zero => exact ⟨_, _, rfl⟩
    | succ i => simpa using ih (i := i) (by simpa using h)
theorem sub_const {c : Const} {k : Nat} {p : Pos} {o i : Value} : subscripted (.Constant c k p) false o i = operate [o, i] (getItem o i) := by with_unfolding_all rfl
theorem sub_name {x : Str} {p : Pos} {o i : Value} : subscripted (.Name x p) false o i = operate [o, i] (getItem o i) := by with_unfolding_all rfl
theorem sub_bin {l r : Expr} {op : Operator} {p : Pos} {o i : Value} : subscripted (.BinOp l op r p) false o i = operate [o, i] (getItem o i) := by with_unfolding_all rfl
theorem sub_un {l : Expr} {op : UnaryOp} {p : Pos} {o i : Value} : subscripted (.UnaryOp op l p) false o i = operate [o, i] (getItem o i) := by with_unfolding_all rfl
theorem sub_call {f : Expr} {as : List Expr} {ks : List Keyword} {p : Pos} {o i : Value} : subscripted (.Call f as ks p) false o i = operate [o, i] (getItem o i) := by with_unfolding_all rfl
section
variable {G : Gl} {A : Around} {h : Heap} {env : Env} {an : An} {γ : Pm} {L : Addr} {m : Mp} {led : Led}
/-! more nodes -/
theorem e_Attr {value : Expr} {attr : Str} {pos : Pos} {Q : Value → Heap → Prop} (x : WP G A (eval value env) (fun o h1 => WP G A (getAttr o attr true) Q h1) h)
    (he : eval (.Attribute value attr pos) env = (do
      let o ← eval value env
      standAt pos.atName
      let r ← holding [o] (getAttr o attr true)
      letTemporaryGo value o r
      pure r)) : WP G A (eval (.Attribute value attr pos) env) Q h := .mk fun _ => Attribute_any_ (x.thn fun _ _ _ q => q.run _) he
theorem x_SetAttr {o : Expr} {attr : Str} {pos' : Pos} {value : Expr} {pos : Pos} {Q : Flow → Heap → Prop}
    (x : WP G A (eval value env) (fun v h1 => WP G A (eval o env) (fun ov h2 => WP G A (setAttr ov attr v) (fun _ => Q .next) h2) h1) h)
    (sw : swapsWith value (some (.Attribute o attr pos')) pos.line env = Pure.pure false) : WP G A (exec (.Assign [.Attribute o attr pos'] value pos) env) Q h := .mk fun _ =>
  plainObj_wpAny_Assign_Attribute (x.thn fun _ _ _ q => q.thn fun _ _ _ q => q.thn fun _ _ _ q => Po.intro _ q) sw
theorem x_Expr {e : Expr} {pos : Pos} {Q : Flow → Heap → Prop} (x : WP G A (eval e env) (fun v h' => v = .none ∧ Q .next h') h)
    (hi : interactive env = false) (hs : swapsWith e none pos.line env = Pure.pure false) : WP G A (exec (.Expr e pos) env) Q h := .mk fun _ =>
  wpAny_Expr (x.thn fun v _ _ q => by obtain ⟨rfl, q⟩ := q; exact Po.intro _ q) hi hs
theorem EOk.int {sc : Scope} {en : Env} {L : Addr} (E : EOk sc en L) : interactive en = false := by
  unfold interactive; rw [E.kf]; rfl
theorem e_If {test body orelse : Expr} {pos : Pos} {Q : Value → Heap → Prop}
    (x : WP G A (isTrue test env (eval test env)) (fun b h' => if b = true then WP G A (eval body env) Q h' else WP G A (eval orelse env) Q h') h) : WP G A (eval (.IfExp test body orelse pos) env) Q h := .mk fun _ =>
  IfExp_ (x.thn fun b h' t' q => by cases b with | true => exact q.run t' | false => exact q.run t')
theorem e_and {e₁ e₂ : Expr} {rest : List Expr} {pos : Pos} {Q : Value → Heap → Prop}
    (x : WP G A (eval e₁ env) (fun v h1 => WP G A (truthy v) (fun c h2 => if c = true then WP G A (eval (.BoolOp .And (e₂ :: rest) pos) env) Q h2 else Q v h2) h1) h) : WP G A (eval (.BoolOp .And (e₁ :: e₂ :: rest) pos) env) Q h := .mk fun _ =>
  BoolOp_and (x.thn fun v _ _ q => q.thn fun c _ t' q => by cases c with | true => exact q.run t' | false => exact Po.intro _ q)
theorem e_one {op : BoolOp} {e : Expr} {pos : Pos} {Q : Value → Heap → Prop} (x : WP G A (eval e env) Q h) : WP G A (eval (.BoolOp op [e] pos) env) Q h := .mk fun tk => BoolOp_one (x.run tk)
theorem t_not {x : Expr} {pos : Pos} {whole : Sem Value} {Q : Bool → Heap → Prop} (q : WP G A (isTrue x env (eval x env)) (fun c h' => Q (!c) h') h) : WP G A (isTrue (.UnaryOp .Not x pos) env whole) Q h := .mk fun _ =>
  isTrue_not (q.thn fun _ _ _ q => Po.intro _ q)
theorem t_or0 {pos : Pos} {whole : Sem Value} {Q : Bool → Heap → Prop} (q : Q false h) : WP G A (isTrue (.BoolOp .Or [] pos) env whole) Q h := .mk fun tk => isTrue_or_nil (Po.intro tk q)
theorem t_and0 {pos : Pos} {whole : Sem Value} {Q : Bool → Heap → Prop} (q : Q true h) : WP G A (isTrue (.BoolOp .And [] pos) env whole) Q h := .mk fun tk => isTrue_and_nil (Po.intro tk q)
theorem t_or {x : Expr} {rest : List Expr} {pos : Pos} {whole : Sem Value} {Q : Bool → Heap → Prop}
    (q : WP G A (isTrue x env (eval x env)) (fun c h' => if c = true then Q true h' else WP G A (isTrue (.BoolOp .Or rest pos) env whole) Q h') h) : WP G A (isTrue (.BoolOp .Or (x :: rest) pos) env whole) Q h := .mk fun _ =>
  isTrue_or (q.thn fun c _ t' q => by cases c with | true => exact Po.intro _ q | false => exact q.run t')
theorem t_and {x : Expr} {rest : List Expr} {pos : Pos} {whole : Sem Value} {Q : Bool → Heap → Prop}
    (q : WP G A (isTrue x env (eval x env)) (fun c h' => if c = true then WP G A (isTrue (.BoolOp .And rest pos) env whole) Q h' else Q false h') h) : WP G A (isTrue (.BoolOp .And (x :: rest) pos) env whole) Q h := .mk fun _ =>
  isTrue_and (q.thn fun c _ t' q => by cases c with | true => exact q.run t' | false => exact Po.intro _ q)
theorem e_none {k : Nat} {pos : Pos} {Q : Value → Heap → Prop} (q : Q .none h) : WP G A (eval (.Constant .none k pos) env) Q h := .mk fun tk => Constant_none (Po.intro tk q)
theorem e_bool {c : Bool} {k : Nat} {pos : Pos} {Q : Value → Heap → Prop} (q : Q (.bool c) h) : WP G A (eval (.Constant (.bool c) k pos) env) Q h := .mk fun tk => Constant_bool (Po.intro tk q)
/-! displays -/
theorem e_List {elts : List Expr} {pos : Pos} {Q : Value → Heap → Prop}
    (x : WP G A (spliced (backTo pos (starEach elts env))) (fun vs h1 => vs.length ≤ sizeLine ∧ Q (.ref h1.objs.size) (h1.push (lo vs 0))) h) : WP G A (eval (.List elts pos) env) Q h := .mk fun _ =>
  wpAny_List (x.thn fun _ _ _ q => ⟨q.1, Po.intro _ q.2⟩)
theorem e_Tup {elts : List Expr} {k : Nat} {pos : Pos} {Q : Value → Heap → Prop}
    (x : WP G A (spliced (backTo pos (starEach elts env))) (fun vs h1 => vs.length ≤ sizeLine ∧ Q (.ref h1.objs.size) (h1.push (tu vs 0))) h) : WP G A (eval (.Tuple elts k pos) env) Q h := .mk fun _ =>
  wpAny_Tuple (x.thn fun _ _ _ q => ⟨q.1, Po.intro _ q.2⟩)
abbrev emd : Obj := { cls := .type "dict", data := .dict #[] }
theorem e_Dict0 {pos : Pos} {Q : Value → Heap → Prop} (q : Q (.ref h.objs.size) (h.push emd)) : WP G A (eval (.Dict [] [] pos) env) Q h := .mk fun tk => wpAny_Dict_empty (Po.intro tk q)
/-- a made object goes to the kept part at once -/
theorem St.made (S : St G an γ L m led h) (o : Obj) (hf : o.isFreed = false) : St G an (ins γ h.objs.size o) L m led (h.push o) := (S.push_led o hf).freeze S.up
/-! instances -/
/-- the entries of an object's own dict -/
inductive Es (w : World) : List DictEntry → List (Str × Value) → Prop
  | nil : Es w [] []
  | cons {x : Str} {tk : Tok} {i : Int} {v : Value} {es : List DictEntry} {kvs : List (Str × Value)} : Es w es kvs → Es w (⟨i, .str x tk, v⟩ :: es) ((x, v) :: kvs)
theorem Es.ref {w : World} {es : List DictEntry} {kvs : List (Str × Value)} (x : Es w es kvs) : es.any (·.refKey) = false := by
  induction x with
  | nil => rfl
  | cons _ ih => rw [List.any_cons, ih]; rfl
theorem Es.get {w : World} {es : List DictEntry} {kvs : List (Str × Value)} (x : Es w es kvs) (n : Str) : getL n es = some (valueAt kvs n) := by
  have key : ∀ {es : List DictEntry} {kvs : List (Str × Value)}, Es w es kvs → (es.find? (·.key.isStr n)).map (·.val) = valueAt kvs n := by
    intro es kvs x
    induction x with
    | nil => rfl
    | @cons y tk i v es kvs x ih =>
      have hd : (Value.str y tk).isStr n = (y == n) := rfl
      unfold valueAt at ih ⊢
      rw [List.find?_cons, List.find?_cons, hd]
      by_cases hy : y = n
      · subst hy; simp
      · have h1 : (y == n) = false := by simpa using hy
        rw [h1, decide_eq_false (by exact hy)]
        exact ih
  have k := key x
  unfold getL
  cases q : es.find? (·.key.isStr n) with
  | none => rw [q] at k; rw [← k]; simp [x.ref]
  | some e => rw [q] at k; rw [← k]; rfl
theorem Es.put {w : World} {es : List DictEntry} {kvs : List (Str × Value)} (x : Es w es kvs) (n : Str) (i : Int) (tk : Tok) (v : Value) (hn : valueAt kvs n = none) : Es w (putL n i (.str n tk) v es) (kvs ++ [(n, v)]) := by
  induction x with
  | nil => exact .cons .nil
  | @cons y tk' i' u es kvs x ih =>
    have hy : y ≠ n := fun e => by subst e; simp [valueAt] at hn
    have h1 : (y == n) = false := by simpa using hy
    unfold putL
    show Es w (if (y == n) = true then _ else _) _
    rw [h1]
    refine .cons (ih ?_)
    unfold valueAt at hn ⊢
    rw [List.find?_cons] at hn
    simpa [hy] using hn
theorem Es.len {w : World} {es : List DictEntry} {kvs : List (Str × Value)} (x : Es w es kvs) : es.length = kvs.length := by
  induction x with
  | nil => rfl
  | cons _ ih => simp [ih]
/-- an object in the kept part -/
def Ins (G : Gl) (γ : Pm) (b C : Addr) (kvs : List (Str × Value)) : Prop := ∃ d es n, γ b = some (instObj C d) ∧ γ d = some (dictOf es n) ∧ Es G.w es kvs
theorem Ins.sub {G : Gl} {γ γ' : Pm} {b C : Addr} {kvs : List (Str × Value)} (s : Sub γ γ') : Ins G γ b C kvs → Ins G γ' b C kvs
  | ⟨d, es, n, a, b, c⟩ => ⟨d, es, n, s _ _ a, s _ _ b, c⟩
theorem inst_at {b C d : Addr} {o : Obj} (e : h.get? b = some (instObj C d)) (e2 : h.get? d = some o) : InstAt h b (instObj C d) C (some o) := ⟨e, rfl, rfl, e2⟩
/-- what the class must be like so that a name is read from the object -/
def readable (K : Frag) (C : Addr) (x : Str) : Bool := plainGet K C x && hasDictIn K C && (match findIn K (.ref C) x with | some a => noGet K a | none => false)
theorem a_get (D : Gd G) {b C : Addr} {x : Str} {v : Value} {ex : Bool} {kvs : List (Str × Value)} {Q : Value → Heap → Prop} (S : St G an γ L m led h) (I : Ins G γ b C kvs) (r : readable (KF G.w.params) C x = true) (hv : valueAt kvs x = some v)
    (hh : handedIn v = true) (q : Q v h) : WP G A (getAttr (.ref b) x ex) Q h := .mk fun tk => by
  obtain ⟨d, es, n, e1, e2, e3⟩ := I
  unfold readable at r
  simp only [Bool.and_eq_true] at r
  obtain ⟨⟨r1, r2⟩, r3⟩ := r
  cases ha : findIn (KF G.w.params) (.ref C) x with
  | none => rw [ha] at r3; cases r3
  | some a =>
    rw [ha] at r3
    exact get_value (s := sh G h tk) (S.kin D) (inst_at (S.get e1) (S.get e2)) (plainGet_of r1).1 (findObj_own r2 ha r3 (by rw [lookIn_dict, e3.get, hv])) hh (Po.intro (tk + 1) q)
/-- what the class must be like so that a name is a method -/
def hasMeth (K : Frag) (C f : Addr) (x : Str) : Bool := plainGet K C x && findIn K (.ref C) x == some (some (.ref f)) && isFn K (.ref f)
theorem m_get (D : Gd G) {b C f : Addr} {x : Str} {pl : Sem Bool} {kvs : List (Str × Value)} {Q : Value × List Value → Heap → Prop} (S : St G an γ L m led h) (I : Ins G γ b C kvs) (r : hasMeth (KF G.w.params) C f x = true) (hv : valueAt kvs x = none)
    (q : Q (.ref f, [.ref b]) h) : WP G A (getMethod (.ref b) x pl) Q h := .mk fun tk => by
  obtain ⟨d, es, n, e1, e2, e3⟩ := I
  unfold hasMeth at r
  simp only [Bool.and_eq_true, beq_iff_eq] at r
  obtain ⟨⟨r1, r2⟩, r3⟩ := r
  exact method_fn (s := sh G h tk) (S.kin D) (inst_at (S.get e1) (S.get e2)) (plainGet_of r1).1 (plainGet_of r1).2 r2 (beq_iff_eq.mp r3) (by show (lookIn x (dictOf es n)).map _ = _; rw [lookIn_dict, e3.get, hv]; rfl) (Po.intro tk q)
/-! the methods of lists -/
theorem lm_append {a : Addr} {vs : List Value} {n : Nat} {pl : Sem Bool} {Q : Value × List Value → Heap → Prop} (e : h.get? a = some (lo vs n)) (q : Q (.builtin "list.append", [.ref a]) h) : WP G A (getMethod (.ref a) "append" pl) Q h := .mk fun tk =>
  Calls.getMethod_list_append (s := sh G h tk) e rfl rfl (Po.intro tk q)
theorem c_append {a : Addr} {vs : List Value} {n : Nat} {x : Value} {Q : Value → Heap → Prop} (S : St G an γ L m led h) (hm : (a, lo vs n) ∈ led) (hz : vs.length ≤ 16000000)
    (q : ∀ h', St G an γ L m (chg led a (lo (vs ++ [x]) (n + 1))) h' → Q .none h') : WP G A (call (.builtin "list.append") [.ref a, x]) Q h := .mk fun tk =>
  append_at (s := sh G h tk) (S.led_get hm) (fun h' hs ho => Po.intro tk (q h' (S.upd hm hs (by rw [ho]; simp [lo])))) (by rw [List.size_toArray]; exact small hz)
end
section
variable {G : Gl} {A : Around} {h : Heap} {env : Env} {an : An} {γ : Pm} {L : Addr} {m : Mp} {led : Led}
/-- what the class must be like so that a new name is set on the object -/
def settable (K : Frag) (C : Addr) (x : Str) : Bool := findIn K (.ref C) "__setattr__" == some (some (.builtin "object.__setattr__")) && plainOver K C && takerIn K C x == some none && hasDictIn K C
theorem a_set (D : Gd G) {b C d : Addr} {x : Str} {v : Value} {es : List DictEntry} {n : Nat} {kvs : List (Str × Value)} {Q : Unit → Heap → Prop} (S : St G an γ L m led h) (hb : γ b = some (instObj C d)) (hm : (d, dictOf es n) ∈ led) (E : Es G.w es kvs)
    (r : settable (KF G.w.params) C x = true) (hv : valueAt kvs x = none) (hz : kvs.length ≤ 100)
    (q : ∀ es' n' h', Es G.w es' (kvs ++ [(x, v)]) → St G an γ L m (chg led d (dictOf es' n')) h' → Q () h') : WP G A (setAttr (.ref b) x v) Q h := .mk fun tk => by
  unfold settable at r
  simp only [Bool.and_eq_true, beq_iff_eq] at r
  obtain ⟨⟨⟨r1, r2⟩, r3⟩, r4⟩ := r
  have X := S.kin D
  have D0 := S.led_get hm
  have I := inst_at (C := C) (S.get hb) D0
  refine set_plain (s := sh G h tk) X I r1 ?_
  refine osa_open (s := sh G h (tk + 1)) X I r2 r3 fun bb => ?_
  obtain ⟨cd, hc, hd'⟩ := any_some r4
  refine wpAny_bind (wpAny_pure (wpAny_bind (wpAny_bind (wpAny_loadPart (S.get hb) (wpAny_bind ((looks_clsIn X hc).here ?_))))))
  rw [hd']
  refine wpAny_pure (a := some d) (wpAny_bind (wpAny_pure (wpAny_bind ?_)))
  unfold nsSet
  refine wpAny_bind (wpAny_bind (wpAny_askSetting (wpAny_pure (wpAny_bind (wpAny_mkText (wpAny_bind (wpAny_loadPart D0 ?_)))))))
  have c : aRefKeyMayBeTheName x es.toArray = false := by
    rw [aRefKeyMayBeTheName_at, ← Array.any_toList, ← Array.any_toList, E.ref, Bool.and_false]
  dsimp only [dictOf]
  rw [c]
  refine wpAny_updatePart D0 ?_
  have e1 := putName_dict x (PyData.keyHash G.w.params x) (.str x (tk + 1)) v es n
  have D1 : (h.update d (Obj.putName x (PyData.keyHash G.w.params x) (.str x (tk + 1)) v)).get? d = some (dictOf (putL x (PyData.keyHash G.w.params x) (.str x (tk + 1)) v es) (putN x es n)) := by
    rw [← e1]; exact Heap.get?_update_self _ D0 (by rw [e1]; rfl)
  have E1 := E.put x (PyData.keyHash G.w.params x) (tk + 1) v hv
  refine wpAny_bind (wpAny_lookBehind D1 (pastItsLine_dict (by rw [List.size_toArray, E1.len, sizeLine_eq, List.length_append]; simp; omega)) ?_)
  exact wpAny_pure (Po.intro (tk + 2) (q _ _ _ E1 (S.upd hm (Heap.SameBut.update ..) D1)))
/-! a class of the text, called -/
theorem c_make (D : Gd G) {C f : Addr} {rest : List Value} {Q : Value → Heap → Prop} (S : St G an γ L m led h) (hm : makesIn (KF G.w.params) C = true) (hi : findIn (KF G.w.params) (.ref C) "__init__" = some (some (.ref f))) (hf : typeIn (KF G.w.params) (.ref f) = some (.type "function"))
    (x : ∀ γ' h', Sub γ γ' → γ' (h.objs.size + 1) = some (instObj C h.objs.size) → St G an γ' L m ((h.objs.size, dictOf [] 0) :: led) h' →
      CD G (A.under (.builtin "type.__call__" ⟨.ref C :: rest, []⟩)) (.call (.ref f) ⟨.ref (h.objs.size + 1) :: rest, []⟩) (Ret fun v h'' => v = .none ∧ Q (.ref (h.objs.size + 1)) h'') h') :
    WP G A (call (.ref C) rest) Q h := wp_call (.mk fun tk => by
  have S1 := S.push_led emd rfl
  have e : h.objs.size + 1 = (h.push emd).objs.size := by rw [Heap.size_push]
  have S2 := S1.push_led (instObj C h.objs.size) rfl
  have S3 := S2.freeze S1.up
  refine make_core (g := G.s₀.gens) (d := G.s₀.drawn) (os := G.s₀.os) (makes_of (S.kin D) hm) (looks_findIn (S.kin D) hi) (fun self => bind_fn (S.kin D) self hf) (.inl rfl) ?_
  refine codeAny_mono ((x _ _ (Sub.ins S1.size_none) (by rw [e]; exact ins_self) (S3)).run tk) fun r s' ⟨fl, h', t', e1, e2, v, e3, e4, q⟩ => ?_
  subst e1 e3 e4
  exact ⟨rfl, .ret _, h', t', rfl, e2, _, rfl, q⟩)
/-! a dict shown with names for keys -/
theorem p_nil {Q : List (Value × Value) → Heap → Prop} (q : Q [] h) : WP G A (evalPairs []) Q h := .mk fun tk => evalPairs_nil (Po.intro tk q)
theorem p_cons {k v : Sem Value} {rest : List (Sem Value × Sem Value)} {Q : List (Value × Value) → Heap → Prop}
    (x : WP G A k (fun kv h1 => WP G A v (fun vv h2 => WP G A (evalPairs rest) (fun vs h3 => Q ((kv, vv) :: vs) h3) h2) h1) h) : WP G A (evalPairs ((k, v) :: rest)) Q h := .mk fun _ =>
  evalPairs_cons (x.thn fun _ _ _ q => q.thn fun _ _ _ q => q.thn fun _ _ _ q => Po.intro _ q)
theorem e_Dict {keys : List (Option Expr)} {values : List Expr} {pos : Pos} {pairs : List (Sem Value × Sem Value)} {Q : Value → Heap → Prop} (S : St G an γ L m led h)
    (hshape : (evalEachOpt keys env).zip ((evalEach values env).map fun v => do let x ← v; standAt pos; Pure.pure x) = pairs.map fun p => (some p.1, p.2)) (h0 : pairs ≠ []) (hlen : pairs.length ≤ 15)
    (x : ∀ h0, St G an γ L m ((h.objs.size, emd) :: led) h0 → WP G A (evalPairs pairs) (fun vs h1 => ∃ kvs γ' m' led', Carries (Skd G) vs kvs ∧ St G an γ' L m' ((h.objs.size, emd) :: led') h1 ∧
      ∀ o h2, o.IsDictOf (Skd G) (merged [] kvs) → St G an γ' L m' ((h.objs.size, o) :: led') h2 → Q (.ref h.objs.size) h2) h0) : WP G A (eval (.Dict keys values pos) env) Q h := .mk fun tk => by
  refine wpAny_Dict_pairs (knd := Skd G) (s := sh G h tk) hshape h0 hlen ?_
  refine wpAny_mono ((x _ (S.push_led emd rfl)).run tk) (fun vs s1 ⟨h1, t1, e, kvs, γ', m', led', hc, S1, q⟩ => ?_) fun _ _ e => e.elim
  subst e
  have hd : Obj.IsDictOf (Skd G) emd [] := by
    obtain ⟨o, ho, hd⟩ := Heap.dictOf_iff.mp (Heap.DictOf.new (knd := Skd G) h)
    rw [Heap.get?_push_size _ rfl] at ho; cases ho; exact hd
  refine ⟨kvs, hc, Heap.dictOf_iff.mpr ⟨_, S1.led_get (.head _), hd⟩, fun h' a b => ?_⟩
  obtain ⟨o', ho', hd'⟩ := Heap.dictOf_iff.mp a
  have S2 := S1.upd (.head _) b ho'
  rw [chg_head (List.nodup_cons.mp S1.nd).2] at S2
  exact Po.intro _ (q _ _ hd' S2)
end
theorem stepLt {n i k : Nat} (hk : k = n - i) (h : i < n) : n - (i + 1) < k := by omega
section
variable {G : Gl} {A : Around} {h : Heap} {env : Env} {an : An} {γ : Pm} {L : Addr} {m : Mp} {led : Led}
/-! the ledger in other orders, and with more in the heap -/
theorem St.perm {led' : Led} (S : St G an γ L m led h) (p : led.Perm led') : St G an γ L m led' h where
  base := S.base
  sub := S.sub
  gro := S.gro
  on := S.on
  ext := S.ext
  ns := S.ns
  gL := S.gL
  hL := S.hL
  nw := fun q hq => S.nw q (p.mem_iff.mpr hq)
  nd := ((p.map _).cons L).nodup_iff.mp S.nd
theorem St.drop {p : Addr × Obj} (S : St G an γ L m (p :: led) h) : St G an γ L m led h where
  base := S.base
  sub := S.sub
  gro := S.gro
  on := S.on
  ext := S.ext
  ns := S.ns
  gL := S.gL
  hL := S.hL
  nw := fun q hq => S.nw q (.tail _ hq)
  nd := by
    obtain ⟨n1, n2⟩ := List.nodup_cons.mp S.nd
    rw [List.map_cons] at n1 n2
    exact List.nodup_cons.mpr ⟨fun q => n1 (.tail _ q), (List.nodup_cons.mp n2).2⟩
theorem St.keep {h' : Heap} (S : St G an γ L m led h) (k : ∀ a o, h.get? a = some o → h'.get? a = some o) : St G an γ L m led h' where
  base := S.base
  sub := S.sub
  gro := S.gro
  on := fun a o e => k _ _ (S.on a o e)
  ext := fun a o e q => k _ _ (S.ext a o e q)
  ns := S.ns.keeps k
  gL := S.gL
  hL := S.hL
  nw := fun p hp => ⟨k _ _ (S.nw p hp).1, (S.nw p hp).2⟩
  nd := S.nd
/-- the head's object changed, or lost -/
theorem St.lose {d : Addr} {o : Obj} {h' : Heap} (S : St G an γ L m ((d, o) :: led) h) (k : Heap.ExtBut d h h') : St G an γ L m led h' := by
  have D := S.nw _ (.head _)
  have N := List.nodup_cons.mp S.nd
  have S' := S.drop
  exact {
  base := S'.base
  sub := S'.sub
  gro := S'.gro
  on := fun a x e => k _ _ (fun q => by rw [q, D.2.1] at e; cases e) (S'.on a x e)
  ext := fun a x e q => k _ _ (fun z => by
    rcases D.2.2 with q' | q'
    · exact q (z ▸ q')
    · exact absurd (get_lt e) (by rw [z]; exact Nat.not_lt.mpr q')) (S'.ext a x e q)
  ns := S'.ns.extBut k fun q => N.1 (q ▸ .head _)
  gL := S'.gL
  hL := S'.hL
  nw := fun p hp => ⟨k _ _ (fun q => (List.nodup_cons.mp N.2).1 (q ▸ List.mem_map_of_mem (f := (·.1)) hp)) (S'.nw p hp).1, (S'.nw p hp).2⟩
  nd := S'.nd }
theorem St.turn {d : Addr} {o o' : Obj} {h' : Heap} (S : St G an γ L m ((d, o) :: led) h) (k : Heap.ExtBut d h h') (e : h'.get? d = some o') : St G an γ L m ((d, o') :: led) h' := by
  have S' := S.lose k
  exact { S' with
    nw := fun p hp => by
      rcases List.mem_cons.mp hp with rfl | hp
      · exact ⟨e, (S.nw _ (.head _)).2⟩
      · exact S'.nw p hp
    nd := S.nd }
/-- another name space of the ledger becomes the frame's own -/
theorem St.swap {C : Addr} {oC : Obj} {mC : Mp} (S : St G an γ L m ((C, oC) :: led) h) (hn : h.Ns C mC) (hC : an.h0.objs.size ≤ C) : ∃ oL, h.get? L = some oL ∧ St G an γ C mC ((L, oL) :: led) h := by
  obtain ⟨oL, es, ep, e, r⟩ := S.ns
  refine ⟨oL, e, ?_⟩
  have N := List.nodup_cons.mp S.nd
  have D := S.nw _ (.head _)
  have S' := S.drop
  exact { S' with
    ns := hn
    gL := D.2.1
    hL := hC
    nw := fun p hp => by
      rcases List.mem_cons.mp hp with rfl | hp
      · exact ⟨e, S.gL, .inr S.hL⟩
      · exact S'.nw p hp
    nd := by
      have n1 := N.1; have n2 := List.nodup_cons.mp N.2
      rw [List.map_cons] at n1 ⊢
      exact List.nodup_cons.mpr ⟨fun q => by
        rcases List.mem_cons.mp q with q | q
        · exact n1 (q ▸ .head _)
        · exact n2.1 q, List.nodup_cons.mpr ⟨fun q => n1 (.tail _ q), n2.2⟩⟩ }
/-! what loops turn over -/
structure It (G : Gl) (A : Around) (γ : Pm) (I : Addr) (n : Nat) (P : Nat → Value → Prop) (Ok : Nat → Obj → Prop) : Prop where
  step : ∀ {an : An} {γ' : Pm} {L : Addr} {m : Mp} {led : Led} {h : Heap} {i : Nat} {oI : Obj}, Sub γ γ' → St G an γ' L m ((I, oI) :: led) h → Ok i oI → i < n →
    WP G A (pyNext (.ref I)) (fun r h' => ∃ v oI', r = some v ∧ P i v ∧ Ok (i + 1) oI' ∧ St G an γ' L m ((I, oI') :: led) h') h
  done : ∀ {an : An} {γ' : Pm} {L : Addr} {m : Mp} {led : Led} {h : Heap} {oI : Obj}, Sub γ γ' → St G an γ' L m ((I, oI) :: led) h → Ok n oI → WP G A (pyNext (.ref I)) (fun r h' => r = none ∧ St G an γ' L m led h') h
  self : ∀ {an : An} {γ' : Pm} {L : Addr} {m : Mp} {led : Led} {h : Heap} {i : Nat} {oI : Obj}, Sub γ γ' → St G an γ' L m ((I, oI) :: led) h → Ok i oI → WP G A (pyIter (.ref I)) (fun r h' => r = .ref I ∧ h' = h) h
def OkL (a : Addr) (i : Nat) (o : Obj) : Prop := o.cls = .type "list_iterator" ∧ o.data = .fields #[.ref a, .int i 0]
def OkT (a : Addr) (i : Nat) (o : Obj) : Prop := o.cls = .type "tuple_iterator" ∧ o.data = .fields #[.ref a, .int i 0]
theorem It.list {I a : Addr} {vs : List Value} {e : Nat} (hh : A.handled = none) (ha : γ a = some (lo vs e)) : It G A γ I vs.length (fun i v => vs[i]? = some v) (OkL a) where
  step := fun {an γ' L m led h i oI} s S ok hi => .mk fun tk => by
    obtain ⟨v, hv⟩ : ∃ v, vs[i]? = some v := ⟨vs[i], by simp [hi]⟩
    refine wpAny_pyNext_list_item (s := sh G h tk) (x := v) ⟨_, S.led_get (.head _), ok⟩ (lo_list (S.get (s _ _ ha))) (by simpa using hv) fun h' hit hs => ?_
    obtain ⟨o', e', ok'⟩ := hit
    exact Po.intro tk ⟨v, o', rfl, hv, ok', S.turn hs.extBut e'⟩
  done := fun {an γ' L m led h oI} s S ok => .mk fun tk =>
    wpAny_pyNext_list_end (s := sh G h tk) hh ⟨_, S.led_get (.head _), ok⟩ (lo_list (S.get (s _ _ ha))) (by simp) fun h' hx => Po.intro tk ⟨rfl, S.lose hx⟩
  self := fun {an γ' L m led h i oI} s S ok => .mk fun tk => wpAny_pyIter_listiter (s := sh G h tk) ⟨_, S.led_get (.head _), ok⟩ (Po.intro tk ⟨rfl, rfl⟩)
theorem It.tuple {I a : Addr} {vs : List Value} {e : Nat} (hh : A.handled = none) (ha : γ a = some (tu vs e)) : It G A γ I vs.length (fun i v => vs[i]? = some v) (OkT a) where
  step := fun {an γ' L m led h i oI} s S ok hi => .mk fun tk => by
    obtain ⟨v, hv⟩ : ∃ v, vs[i]? = some v := ⟨vs[i], by simp [hi]⟩
    refine wpAny_pyNext_tuple_item (s := sh G h tk) (x := v) ⟨_, S.led_get (.head _), ok⟩ ⟨_, S.get (s _ _ ha), rfl, _, rfl⟩ (by simpa using hv) fun h' hit hs => ?_
    obtain ⟨o', e', ok'⟩ := hit
    exact Po.intro tk ⟨v, o', rfl, hv, ok', S.turn hs.extBut e'⟩
  done := fun {an γ' L m led h oI} s S ok => .mk fun tk =>
    wpAny_pyNext_tuple_end (s := sh G h tk) hh ⟨_, S.led_get (.head _), ok⟩ ⟨_, S.get (s _ _ ha), rfl, _, rfl⟩ (by simp) fun h' hx => Po.intro tk ⟨rfl, S.lose hx⟩
  self := fun {an γ' L m led h i oI} s S ok => .mk fun tk => wpAny_pyIter_tupleiter (s := sh G h tk) ⟨_, S.led_get (.head _), ok⟩ (Po.intro tk ⟨rfl, rfl⟩)
def OkR (n : Nat) (i : Nat) (o : Obj) : Prop := o = { cls := .type "range_iterator", data := .fields #[rawInt (i : Nat), rawInt ((n : Int) - (i : Nat)), rawInt 1] }
theorem It.range {I : Addr} {n : Nat} (hh : A.handled = none) : It G A γ I n (fun i v => ∃ t, v = .int i t) (OkR n) where
  step := fun {an γ' L m led h i oI} s S ok hi => .mk fun tk => by
    subst ok
    refine wpAny_pyNext_range_item (s := sh G h tk) (S.led_get (.head _)) (by omega) fun h' hit hs => ?_
    exact Po.intro _ ⟨_, _, rfl, ⟨_, rfl⟩, by unfold OkR; push_cast; rw [Int.sub_sub], S.turn hs.extBut hit⟩
  done := fun {an γ' L m led h oI} s S ok => .mk fun tk => by
    subst ok
    exact wpAny_pyNext_range_end (s := sh G h tk) hh (S.led_get (.head _)) (by omega) fun h' hx => Po.intro tk ⟨rfl, S.lose hx⟩
  self := fun {an γ' L m led h i oI} s S ok => .mk fun tk => by
    subst ok
    exact wpAny_pyIter_rangeiter (s := sh G h tk) (S.led_get (.head _)) (Po.intro tk ⟨rfl, rfl⟩)
theorem it_list {a : Addr} {vs : List Value} {e : Nat} {Q : Value → Heap → Prop} (S : St G an γ L m led h) (ha : h.get? a = some (lo vs e))
    (q : ∀ I oI h', OkL a 0 oI → St G an γ L m ((I, oI) :: led) h' → Q (.ref I) h') : WP G A (pyIter (.ref a)) Q h := .mk fun tk =>
  wpAny_pyIter_list (s := sh G h tk) (lo_list ha) (Po.intro tk (q _ _ _ ⟨rfl, rfl⟩ (S.push_led _ rfl)))
theorem it_tuple {a : Addr} {vs : List Value} {e : Nat} {Q : Value → Heap → Prop} (S : St G an γ L m led h) (ha : h.get? a = some (tu vs e))
    (q : ∀ I oI h', OkT a 0 oI → St G an γ L m ((I, oI) :: led) h' → Q (.ref I) h') : WP G A (pyIter (.ref a)) Q h := .mk fun tk =>
  wpAny_pyIter_tuple (s := sh G h tk) ⟨_, ha, rfl, _, rfl⟩ (Po.intro tk (q _ _ _ ⟨rfl, rfl⟩ (S.push_led _ rfl)))
def rgO (n : Nat) (t u v : Tok) : Obj := { cls := .type "range", data := .fields #[.int 0 t, .int n u, .int 1 v] }
theorem c_range {n : Nat} {t : Tok} {Q : Value → Heap → Prop} (S : St G an γ L m led h) (q : ∀ r γ' h' t u v, Sub γ γ' → γ' r = some (rgO n t u v) → St G an γ' L m led h' → Q (.ref r) h') : WP G A (call (.type "range") [.int n t]) Q h := .mk fun tk =>
  call_range_1 (s := sh G h tk) (Po.intro _ (q _ _ _ _ _ _ (Sub.ins S.size_none) ins_self (S.made (rgO n tk t (tk + 1)) rfl)))
theorem it_range {r : Addr} {n : Nat} {t u v : Tok} {Q : Value → Heap → Prop} (S : St G an γ L m led h) (ha : γ r = some (rgO n t u v)) (hn : n ≤ 1000000)
    (q : ∀ I oI h', OkR n 0 oI → St G an γ L m ((I, oI) :: led) h' → Q (.ref I) h') : WP G A (pyIter (.ref r)) Q h := .mk fun tk => by
  have e : Builtin.Range.rangeSize 0 (n : Int) 1 = (n : Int) := by unfold Builtin.Range.rangeSize; simp; omega
  refine wpAny_pyIter_range (s := sh G h tk) (S.get ha) ?_ ?_
  · unfold Builtin.Range.small
    generalize Builtin.Range.rangeSize 0 (n : Int) 1 = z at e
    subst e
    have f : ∀ z : Int, 0 ≤ z → z ≤ 1000000 → Builtin.Range.rangeFitsLong z = true := fun z a b => by unfold Builtin.Range.rangeFitsLong; simp; omega
    simp [f 0 (by omega) (by omega), f n (by omega) (by omega), f 1 (by omega) (by omega)]
  · rw [e]; exact Po.intro tk (q _ _ _ (by unfold OkR; simp) (S.push_led _ rfl))
/-! loops -/
theorem x_For {target iter : Expr} {body orelse : List Stmt} {pos : Pos} {Q : Flow → Heap → Prop}
    (x : WP G A (eval iter env) (fun xv h1 => WP G A (pyIter xv) (fun it h2 => CD G A (.forLoop target it body orelse env) Q h2) h1) h)
    (hs : ∀ x, foldedSetIterable iter env x = Pure.pure x) : WP G A (exec (.For target iter body orelse pos) env) Q h := .mk fun _ =>
  wpAny_For (x.thn fun _ _ _ q => q.thn fun _ _ _ q => codeAny_mono (q.run _) fun r s' ⟨f, h', t', e, e', z⟩ => by subst e; exact ⟨h', t', e', z⟩) hs
theorem x_While {test : Expr} {body orelse : List Stmt} {pos : Pos} {Q : Flow → Heap → Prop} (x : CD G A (.whileLoop test body orelse env) Q h) : WP G A (exec (.While test body orelse pos) env) Q h := .mk fun _ =>
  wpAny_While (codeAny_mono (x.run _) fun r s' ⟨f, h', t', e, e', z⟩ => by subst e; exact ⟨h', t', e', z⟩)
theorem cd_while {test : Expr} {body : List Stmt} {Q : Flow → Heap → Prop} (I : Nat → Heap → Prop)
    (turn : ∀ n h, I n h → WP G A (isTrue test env (eval test env)) (fun b h1 => if b = true then WP G A (execs body env) (fun f h2 => match f with
      | .next | .cont => ∃ k, k < n ∧ I k h2
      | .brk => Q .next h2
      | .ret v => Q (.ret v) h2) h1 else Q .next h1) h) (n : Nat) (i0 : I n h) : CD G A (.whileLoop test body [] env) Q h := .mk fun tk => by
  refine codeAny_whileLoop (fun n s => ∃ h t, s = sh G h t ∧ I n h) (fun n s ⟨h, t, e, i⟩ => ?_) n ⟨h, tk, rfl, i0⟩
  subst e
  refine wpAny_mono ((turn n h i).run t) (fun b s1 ⟨h1, t1, e, z⟩ => ?_) fun _ _ e => e.elim
  subst e
  cases b with
  | true =>
    rw [if_pos rfl] at z ⊢
    refine wpAny_mono (z.run t1) (fun f s2 ⟨h2, t2, e, q⟩ => ?_) fun _ _ e => e.elim
    subst e
    cases f with
    | next => obtain ⟨k, hk, i⟩ := q; exact ⟨k, hk, h2, t2, rfl, i⟩
    | cont => obtain ⟨k, hk, i⟩ := q; exact ⟨k, hk, h2, t2, rfl, i⟩
    | brk => exact ⟨_, h2, t2, rfl, rfl, q⟩
    | ret v => exact ⟨_, h2, t2, rfl, rfl, q⟩
  | false =>
    rw [if_neg (by decide)] at z ⊢
    exact wpAny_execs_nil ⟨_, h1, t1, rfl, rfl, z⟩
theorem cd_for {x : Str} {px : Pos} {body : List Stmt} {Q : Flow → Heap → Prop} {sc : Scope} {I : Addr} {n : Nat} {P : Nat → Value → Prop} {Ok : Nat → Obj → Prop} {oI : Obj} (E : EOk sc env L) (T : It G A γ I n P Ok) (ok0 : Ok 0 oI) (S : St G an γ L m ((I, oI) :: led) h)
    (J : Nat → Pm → Mp → Led → Prop) (j0 : J 0 γ m led)
    (turn : ∀ i v γ' m' led' oI' h', i < n → P i v → Sub γ γ' → J i γ' m' led' → St G an γ' L (put m' x v) ((I, oI') :: led') h' → WP G A (execs body env) (fun f h2 => match f with
      | .next | .cont => ∃ γ2 m2 led2, Sub γ' γ2 ∧ J (i + 1) γ2 m2 led2 ∧ St G an γ2 L m2 ((I, oI') :: led2) h2
      | .brk => False
      | .ret v => Q (.ret v) h2) h')
    (fin : ∀ γ' m' led' h', Sub γ γ' → J n γ' m' led' → St G an γ' L m' led' h' → Q .next h')
    (hx : sc.names.lookup x = some .local) : CD G A (.forLoop (.Name x px) (.ref I) body [] env) Q h := .mk fun tk => by
  refine codeAny_forLoop (fun k s => ∃ h' t i γ' m' led' oI', s = sh G h' t ∧ i ≤ n ∧ k = n - i ∧ Sub γ γ' ∧ J i γ' m' led' ∧ Ok i oI' ∧ St G an γ' L m' ((I, oI') :: led') h') ?_ n
    ⟨h, tk, 0, γ, m, led, oI, rfl, Nat.zero_le _, rfl, Sub.refl _, j0, ok0, S⟩
  rintro k s ⟨h', t, i, γ', m', led', oI', e, hi, hk, s', j, ok, S'⟩
  subst e
  by_cases hlt : i < n
  · refine wpAny_mono ((T.step s' S' ok hlt).run t) (fun r s1 ⟨h1, t1, e, v, oI2, er, hv, ok2, S2⟩ => ?_) fun _ _ e => e.elim
    subst e er
    refine wpAny_assign_Name ?_
    refine wpAny_mono ((n_store (A := A) (Q := fun _ h2 => St G an γ' L (put m' x v) ((I, oI2) :: led') h2) S2 E (fun h2 z => z) hx).run t1) (fun _ s2 ⟨h2, t2, e, S3⟩ => ?_) fun _ _ e => e.elim
    subst e
    refine wpAny_mono ((turn i v γ' m' led' oI2 h2 hlt hv s' j S3).run t2) (fun f s3 ⟨h3, t3, e, q⟩ => ?_) fun _ _ e => e.elim
    subst e
    have go : (∃ γ2 m2 led2, Sub γ' γ2 ∧ J (i + 1) γ2 m2 led2 ∧ St G an γ2 L m2 ((I, oI2) :: led2) h3) → ∃ m_1, m_1 < k ∧ ∃ h' t i γ' m' led' oI', sh G h3 t3 = sh G h' t ∧ i ≤ n ∧ m_1 = n - i ∧ Sub γ γ' ∧ J i γ' m' led' ∧ Ok i oI' ∧ St G an γ' L m' ((I, oI') :: led') h' :=
      fun ⟨γ2, m2, led2, s2, j2, S4⟩ => ⟨n - (i + 1), stepLt hk hlt, h3, t3, i + 1, γ2, m2, led2, oI2, rfl, hlt, rfl, s'.trans s2, j2, ok2, S4⟩
    cases f with
    | next => exact go q
    | cont => exact go q
    | brk => exact q.elim
    | ret v => exact ⟨_, h3, t3, rfl, rfl, q⟩
  · have : i = n := by omega
    subst this
    refine wpAny_mono ((T.done s' S' ok).run t) (fun r s1 ⟨h1, t1, e, er, S2⟩ => ?_) fun _ _ e => e.elim
    subst e er
    exact wpAny_execs_nil ⟨_, h1, t1, rfl, rfl, fin γ' m' led' h1 s' j S2⟩
end
section
variable {G : Gl} {A : Around} {h : Heap} {env : Env} {an : An} {γ : Pm} {L : Addr} {m : Mp} {led : Led}
/-! names that live in cells -/
theorem n_cell {sc : Scope} {x : Str} {pos : Pos} {c : Addr} {o : Obj} {v : Value} {Q : Value → Heap → Prop} (E : EOk sc env L) (hc : env.cells.lookup x = some c) (ho : h.get? c = some o) (hd : o.data = .cell (some v)) (q : Q v h)
    (hx : sc.names.lookup x = some .cell) (hdb : (x == ("__debug__" : Str)) = false) : WP G A (eval (.Name x pos) env) Q h := .mk fun tk =>
  wpAny_Name (wpAny_loadName_cell (s := sh G h tk) E.kf (E.kd hx) hc ⟨o, ho, hd⟩ (Po.intro tk q)) hdb
theorem c_store {sc : Scope} {x : Str} {c : Addr} {o : Obj} {v : Value} {v0 : Option Value} {Q : Unit → Heap → Prop} (S : St G an γ L m led h) (E : EOk sc env L) (hc : env.cells.lookup x = some c) (hm : (c, o) ∈ led) (hd : o.data = .cell v0)
    (k : ∀ o' h', o'.data = .cell (some v) → St G an γ L m (chg led c o') h' → Q () h') (hx : sc.names.lookup x = some .cell) : WP G A (storeName env x v) Q h := .mk fun tk =>
  wpAny_storeName_cell (s := sh G h tk) E.kf (E.kd hx) hc ⟨o, S.led_get hm, hd⟩ fun h' ⟨o', e, hd'⟩ hs => Po.intro tk (k o' h' hd' (S.upd hm hs e))
/-! comprehensions -/
def relb (scope sc : Scope) : Scope := { scope with names := scope.names.map fun (n, k) => if (k == .free && sc.kind == .function && sc.names.lookup n == some .cell) then (n, .cell) else (n, k) }
theorem EOk.rel {sc : Scope} (E : EOk sc env L) (scope : Scope) : relabel scope env = relb scope sc := by
  unfold relabel relb Env.kindOf
  rw [E.sco]
def closL (cs : List (Str × Addr)) : List (Str × NameKind) → List (Str × Addr) → Option (List (Str × Addr))
  | [], acc => some acc
  | (n, k) :: r, acc => if k == .free then (match cs.lookup n with | some c => closL cs r ((n, c) :: acc) | none => none) else closL cs r acc
theorem clos_of {scope : Scope} {cl : List (Str × Addr)} (e : closL env.cells scope.names [] = some cl) : closureFor scope env = Pure.pure cl := by
  have key : ∀ (f : Str × NameKind → List (Str × Addr) → Sem (ForInStep (List (Str × Addr)))) (_ : ∀ n k r, f (n, k) r = if (k == NameKind.free) = true then (do let a ← cellOf env n; Pure.pure (ForInStep.yield ((n, a) :: r))) else Pure.pure (ForInStep.yield r))
      (l : List (Str × NameKind)) (acc : List (Str × Addr)), closL env.cells l acc = some cl → (forIn l acc f : Sem (List (Str × Addr))) = Pure.pure cl := by
    intro f hf l
    induction l with
    | nil => intro acc e; cases e; rfl
    | cons p r ih =>
      intro acc e
      obtain ⟨n, k⟩ := p
      unfold closL at e
      rw [List.forIn_cons, hf]
      by_cases hk : (k == NameKind.free) = true
      · rw [if_pos hk] at e
        cases q : env.cells.lookup n with
        | none => rw [q] at e; cases e
        | some c =>
          rw [q] at e
          have hc : cellOf env n = Pure.pure c := by unfold cellOf; rw [q]
          simp only [hk, if_true, hc, pure_bind]
          exact ih _ e
      · rw [if_neg hk] at e
        simp only [hk, Bool.false_eq_true, if_false, pure_bind]
        exact ih _ e
  exact (congrArg (· >>= Pure.pure) (key _ (fun n k r => by cases k <;> rfl) scope.names [] e)).trans rfl
/-- the frame of a comprehension -/
def cenv (scope sc : Scope) (cl : List (Str × Addr)) (C : Addr) (env : Env) : Env := { scope := relb scope sc, locals := C, globals := env.globals, cells := cl, qual := env.qual, func := none, code := env.code, frame := env.frame, builtins := env.builtins }
theorem cenv_ok {scope sc : Scope} {cl : List (Str × Addr)} {C : Addr} (E : EOk sc env L) (hk : scope.kind = .function) : EOk (relb scope sc) (cenv scope sc cl C env) C := ⟨rfl, rfl, E.glo, E.bui, hk⟩
theorem relb_local {scope sc : Scope} {x : Str} (e : scope.names.lookup x = some .local) : (relb scope sc).names.lookup x = some .local := by
  unfold relb
  revert e
  generalize scope.names = l
  intro e
  induction l with
  | nil => cases e
  | cons p r ih =>
    obtain ⟨n, k⟩ := p
    show List.lookup x ((if (k == NameKind.free && sc.kind == .function && sc.names.lookup n == some .cell) = true then (n, NameKind.cell) else (n, k)) :: _) = _
    rw [List.lookup_cons] at e
    cases hx : x == n with
    | true =>
      rw [hx] at e; cases e
      simp [List.lookup_cons, hx]
    | false =>
      rw [hx] at e
      have := ih e
      by_cases hc : (k == NameKind.free && sc.kind == .function && sc.names.lookup n == some .cell) = true
      · rw [if_pos hc, List.lookup_cons, hx]; exact this
      · rw [if_neg hc, List.lookup_cons, hx]; exact this
/-- what a turn's element shows -/
abbrev Turn (G : Gl) (A : Around) (an : An) (L : Addr) (elt : Expr) (x : Str) (scope sc : Scope) (cl : List (Str × Addr)) (env : Env) (γ : Pm) (n : Nat) (P : Nat → Value → Prop) (J : Nat → List Value → Pm → Led → Prop) : Prop :=
  ∀ i ys v γ' led' h' C mC I oI oL D k en, i < n → P i v → ys.length = i → Sub γ γ' → J i ys γ' led' → EOk (relb scope sc) en C → en.cells = cl →
    St G an γ' C (put mC x v) ((I, oI) :: (L, oL) :: (D, lo ys k) :: led') h' →
    WP G A (eval elt en) (fun y h2 => ∃ γ2 led2 mC2, Sub γ' γ2 ∧ J (i + 1) (ys ++ [y]) γ2 led2 ∧ St G an γ2 C mC2 ((I, oI) :: (L, oL) :: (D, lo ys k) :: led2) h2) h'
theorem lc_core {elt iter : Expr} {x : Str} {px : Pos} {scope sc : Scope} {cl : List (Str × Addr)} {pos : Pos} {I : Addr} {n : Nat} {P : Nat → Value → Prop} {Ok : Nat → Obj → Prop} {oI : Obj} {E' : Value → Shared → Prop}
    {RR : Value → Addr → Result → Shared → Prop} {tk : Nat} (J : Nat → List Value → Pm → Led → Prop)
    (E : EOk sc env L) (T : It G A γ I n P Ok) (ok0 : Ok 0 oI) (S : St G an γ L m ((I, oI) :: led) h) (j0 : J 0 [] γ led) (hz : n ≤ 16000000)
    (hcell : ∀ y ∈ scope.names, y.2 ≠ .cell) (hk : scope.kind = .function) (hx : scope.names.lookup x = some .local)
    (turn : Turn G A an L elt x scope sc cl env γ n P J)
    (fin : ∀ D C oC mC ys k γ' γ'' led' h' t, ys.length = n → Sub γ γ' → Sub γ' γ'' → J n ys γ' led' → γ'' D = some (lo ys k) → h'.Ns C mC → St G an γ'' L m ((C, oC) :: led') h' → RR (.ref D) C (.ok .next) (sh G h' t)) :
    wpAny (MD G) A (newList []) (fun acc s₃ => wpAny (MD G) A (newFunctionEnv scope env.globals cl [] env.qual none .none (some env)) (fun cenv s₄ =>
      codeAny (MD G) A (.compStart (.ListComp elt [⟨.Name x px, iter, [], 0⟩] scope pos) 0 (.ref I) acc { cenv with scope := relabel scope env }) (RR acc cenv.locals) s₄) E' s₃) E' (sh G h tk) := by
  have hD := S.up
  refine wpAny_newObj_type (wpAny_newFunctionEnv hcell (by intro y hy; simp at hy) (fun h₁ hns₁ hsb₁ => ?_) hk)
  dsimp only [sh] at hns₁ hsb₁
  change codeAny (MD G) A (.compStart (.ListComp elt [⟨.Name x px, iter, [], 0⟩] scope pos) 0 (.ref I) (.ref h.objs.size) ({ (newEnv scope (h.push (lo [] 0)).objs.size env.globals cl env.qual none .none (some env) builtinsNs) with scope := relabel scope env } : Env)) (RR (.ref h.objs.size) (h.push (lo [] 0)).objs.size) (sh G h₁ (tk + 0))
  have S1 := S.push_led (lo [] 0) rfl
  change Heap.Ns h₁ (h.push (lo [] 0)).objs.size _ at hns₁
  change Heap.SameBut (h.push (lo [] 0)).objs.size ((h.push (lo [] 0)).push _) h₁ at hsb₁
  have hC : an.h0.objs.size ≤ (h.push (lo [] 0)).objs.size := S1.up
  have S2 := S1.push_led ({ cls := .type (if (some env).isSome then "dict" else "frame"), data := .dict #[] } : Obj) rfl
  generalize hDd : h.objs.size = D at S1 S2 hD ⊢
  generalize hCd : (h.push (lo [] 0)).objs.size = C at hns₁ hsb₁ S2 hC ⊢
  obtain ⟨oC, hoC, -⟩ : ∃ oC, h₁.get? C = some oC ∧ True := by obtain ⟨o, _, _, e, _⟩ := hns₁; exact ⟨o, e, trivial⟩
  have S3 := S2.turn hsb₁.extBut hoC
  obtain ⟨oL, hoL, S4⟩ := S3.swap hns₁ hC
  have S5 : St G an γ C _ ((I, oI) :: (L, oL) :: (D, lo [] 0) :: led) h₁ := S4.perm (by
    refine (List.Perm.cons (L, oL) (List.Perm.swap (I, oI) (D, lo [] 0) led)).trans ?_
    exact List.Perm.swap (I, oI) (L, oL) _)
  have hnsL : ∃ m', h₁.Ns L m' ∧ m' = m := ⟨_, S3.ns, rfl⟩
  have hLs := S.hL
  have loop : ∀ t, codeAny (MD G) A (.compLoop (.ListComp elt [⟨.Name x px, iter, [], 0⟩] scope pos) 0 (.ref I) (.ref D) (cenv scope sc cl C env)) (RR (.ref D) C) (sh G h₁ t) := fun t => by
    have hnL := S3.ns
    obtain ⟨oL', esL, epL, eL, rL⟩ := hnL
    have : oL' = oL := by rw [hoL] at eL; cases eL; rfl
    subst this
    refine codeAny_compLoop_list (fun k s => ∃ h' t i ys γ' mC led' oI' e, s = sh G h' t ∧ i ≤ n ∧ k = n - i ∧ ys.length = i ∧ Sub γ γ' ∧ J i ys γ' led' ∧ Ok i oI' ∧ St G an γ' C mC ((I, oI') :: (L, oL') :: (D, lo ys e) :: led') h')
      ?_ n ⟨h₁, t, 0, [], γ, _, led, oI, 0, rfl, Nat.zero_le _, rfl, rfl, Sub.refl _, j0, ok0, S5⟩
    rintro k s ⟨h', t, i, ys, γ', mC, led', oI', e, es, hi, hk', hl, s', j, ok, S'⟩
    subst es
    by_cases hlt : i < n
    · refine wpAny_mono ((T.step s' S' ok hlt).run t) (fun r s1 ⟨h1, t1, es, v, oI2, er, hv, ok2, S2⟩ => ?_) fun _ _ e => e.elim
      subst es er
      refine wpAny_assign_Name ?_
      refine wpAny_mono ((n_store (A := A) (Q := fun _ h2 => St G an γ' C (put mC x v) ((I, oI2) :: (L, oL') :: (D, lo ys e) :: led') h2) S2 (cenv_ok E hk) (fun h2 z => z) (relb_local hx)).run t1) (fun _ s2 ⟨h2, t2, es, S3⟩ => ?_) fun _ _ e => e.elim
      subst es
      refine wpAny_mono ((turn i ys v γ' led' h2 C mC I oI2 oL' D e _ hlt hv hl s' j (cenv_ok E hk) rfl S3).run t2) (fun y s3 ⟨h3, t3, es, γ2, led2, mC2, s2, j2, S4⟩ => ?_) fun _ _ e => e.elim
      subst es
      have pm : ((I, oI2) :: (L, oL') :: (D, lo ys e) :: led2).Perm ((D, lo ys e) :: (I, oI2) :: (L, oL') :: led2) := by
        refine (List.Perm.cons _ (List.Perm.swap (D, lo ys e) (L, oL') led2)).trans ?_
        exact List.Perm.swap _ _ _
      have pm2 : ((D, lo (ys ++ [y]) (e + 1)) :: (I, oI2) :: (L, oL') :: led2).Perm ((I, oI2) :: (L, oL') :: (D, lo (ys ++ [y]) (e + 1)) :: led2) := by
        refine (List.Perm.swap _ _ _).trans ?_
        exact List.Perm.cons _ (List.Perm.swap _ _ _)
      have S5 := S4.perm pm
      refine wpAny_mono ((c_append (x := y) (Q := fun _ h4 => St G an γ2 C mC2 ((D, lo (ys ++ [y]) (e + 1)) :: (I, oI2) :: (L, oL') :: led2) h4) S5 (.head _) (by omega) (fun h4 z => by rwa [chg_head (List.nodup_cons.mp S5.nd).2] at z)).run t3) (fun _ s4 ⟨h4, t4, es, S6⟩ => ?_) fun _ _ e => e.elim
      subst es
      exact ⟨n - (i + 1), stepLt hk' hlt, h4, t4, i + 1, ys ++ [y], γ2, mC2, led2, oI2, e + 1, rfl, hlt, rfl, by simp [hl], s'.trans s2, j2, ok2, S6.perm pm2⟩
    · have : i = n := by omega
      subst this
      refine wpAny_mono ((T.done s' S' ok).run t) (fun r s1 ⟨h1, t1, es, er, S2⟩ => ?_) fun _ _ e => e.elim
      subst es er
      have hnC := S2.ns
      obtain ⟨oC', hoC', S3'⟩ := S2.swap (mC := m) ⟨oL', esL, epL, (S2.nw _ (.head _)).1, rL⟩ hLs
      have S4' := (S3'.perm (List.Perm.swap _ _ _)).freeze hD
      exact fin D C oC' mC ys e _ _ _ h1 t1 hl s' (Sub.ins (S2.nw _ (.tail _ (.head _))).2.1) j ins_self hnC S4'
  have erel : ({ (newEnv scope C env.globals cl env.qual none .none (some env) builtinsNs) with scope := relabel scope env } : Env) = cenv scope sc cl C env := by
    rw [E.rel]; rfl
  rw [erel]
  refine codeAny_compStart_list (loop _) (wpAny_mono ((T.self (Sub.refl _) S5 ok0).run _) (fun r s1 ⟨h1, t1, es, er, eh⟩ => ?_) fun _ _ e => e.elim)
  subst es er eh
  exact loop t1
/-- a list comprehension behind its iterator -/
structure LCG (G : Gl) (A : Around) (env : Env) (elt iter : Expr) (x : Str) (px : Pos) (scope : Scope) (pos : Pos) (use : Option (Value → Sem Unit)) (Q : Value → Heap → Prop) (it : Value) (h : Heap) : Prop where
  run : ∀ tk, ∃ cl, closureFor scope env = Pure.pure cl ∧ scope.kind = .function ∧ (∀ x ∈ scope.names, x.2 = .local → scope.names.lookup x.1 = some .local) ∧
    wpAny (MD G) A (newList []) (fun acc s₃ => wpAny (MD G) A (newFunctionEnv scope env.globals cl [] env.qual none .none (some env)) (fun cenv s₄ =>
      codeAny (MD G) A (.compStart (.ListComp elt [⟨.Name x px, iter, [], 0⟩] scope pos) 0 it acc { cenv with scope := relabel scope env }) (compPost (MD G) A No use (Po G Q) acc cenv.locals) s₄) No s₃) No (sh G h tk)
/-- what a comprehension's scope must be like -/
def plainC (scope : Scope) (x : Str) : Bool := scope.names.all (fun y => y.2 != .cell && (y.2 != .local || decide (scope.names.lookup y.1 = some .local))) && decide (scope.kind = .function) && decide (scope.names.lookup x = some .local)
theorem plainC_of {scope : Scope} {x : Str} (e : plainC scope x = true) : (∀ y ∈ scope.names, y.2 ≠ .cell) ∧ (∀ y ∈ scope.names, y.2 = .local → scope.names.lookup y.1 = some .local) ∧ scope.kind = .function ∧ scope.names.lookup x = some .local := by
  unfold plainC at e
  simp only [Bool.and_eq_true, List.all_eq_true, Bool.or_eq_true, bne_iff_ne, ne_eq, decide_eq_true_eq] at e
  obtain ⟨⟨a, b⟩, c⟩ := e
  exact ⟨fun y hy => (a y hy).1, fun y hy q => (a y hy).2.resolve_left fun z => z q, b, c⟩
theorem lcg {elt iter : Expr} {x : Str} {px : Pos} {scope sc : Scope} {cl : List (Str × Addr)} {pos : Pos} {I : Addr} {n : Nat} {P : Nat → Value → Prop} {Ok : Nat → Obj → Prop} {oI : Obj} {Q : Value → Heap → Prop}
    (J : Nat → List Value → Pm → Led → Prop) (E : EOk sc env L) (T : It G A γ I n P Ok) (ok0 : Ok 0 oI) (S : St G an γ L m ((I, oI) :: led) h) (j0 : J 0 [] γ led) (hz : n ≤ 16000000)
    (hcl : closL env.cells scope.names [] = some cl) (hp : plainC scope x = true)
    (turn : Turn G A an L elt x scope sc cl env γ n P J)
    (fin : ∀ D ys k γ' γ'' led' h', ys.length = n → Sub γ γ' → Sub γ' γ'' → J n ys γ' led' → γ'' D = some (lo ys k) → St G an γ'' L m led' h' → Q (.ref D) h') : LCG G A env elt iter x px scope pos none Q (.ref I) h := .mk fun tk => by
  obtain ⟨p1, p2, p3, p4⟩ := plainC_of hp
  refine ⟨cl, clos_of hcl, p3, p2, lc_core (RR := fun acc C => compPost (MD G) A No none (Po G Q) acc C) J E T ok0 S j0 hz p1 p3 p4 turn fun D C oC mC ys k γ' γ'' led' h' t hl s1 s2 j hD hn S' => ?_⟩
  exact ⟨mC, hn, fun h'' hs => ⟨h'', t, rfl, fin D ys k γ' γ'' led' h'' hl s1 s2 j hD (S'.lose hs.extBut)⟩⟩
theorem e_LC {elt iter : Expr} {x : Str} {px : Pos} {scope : Scope} {pos : Pos} {Q : Value → Heap → Prop}
    (q : WP G A (eval iter env) (fun xv h1 => WP G A (pyIter xv) (fun it h2 => LCG G A env elt iter x px scope pos none Q it h2) h1) h) (hs : ∀ x, foldedSetIterable iter env x = Pure.pure x)
    {cl : List (Str × Addr)} (hcl : closL env.cells scope.names [] = some cl) (hp : plainC scope x = true) : WP G A (eval (.ListComp elt [⟨.Name x px, iter, [], 0⟩] scope pos) env) Q h := .mk fun tk => by
  rw [eval_ListComp]
  obtain ⟨p1, p2, p3, p4⟩ := plainC_of hp
  refine wpAny_comprehension_free (use := none) rfl hs (clos_of hcl) p3 p2 (q.thn fun xv h1 t1 q => q.thn fun it h2 t2 q => ?_)
  obtain ⟨cl', c1, -, -, z⟩ := q.run t2
  have : cl' = cl := by
    have e := c1.symm.trans (clos_of hcl)
    exact (Sem.pure.inj e)
  subst this
  exact z
/-- and kept in a local at once -/
theorem x_LC {elt iter : Expr} {x y : Str} {px py : Pos} {scope sc : Scope} {pos spos : Pos} {cl : List (Str × Addr)} {Q : Flow → Heap → Prop}
    (hsw : swapsWith (.ListComp elt [⟨.Name x px, iter, [], 0⟩] scope pos) (some (.Name y py)) spos.line env = Pure.pure true)
    (hs : ∀ x, foldedSetIterable iter env x = Pure.pure x)
    (hcl : closL env.cells scope.names [] = some cl) (hp : plainC scope x = true)
    (q : WP G A (eval iter env) (fun xv h1 => WP G A (pyIter xv) (fun it h2 => LCG G A env elt iter x px scope pos (some (assign (.Name y py) env)) (fun _ => Q .next) it h2) h1) h) :
    WP G A (exec (.Assign [.Name y py] (.ListComp elt [⟨.Name x px, iter, [], 0⟩] scope pos) spos) env) Q h := .mk fun tk => by
  rw [exec_Assign_Name_used _ _ _ _ hsw]
  refine wpAny_bind (wpAny_standAt (wpAny_bind ?_))
  show wpAny _ A (do let _ ← comprehension (.ListComp elt [⟨.Name x px, iter, [], 0⟩] scope pos) scope env _ (newList []) false (eval iter env) (some (assign (.Name y py) env))) _ _ _
  obtain ⟨p1, p2, p3, p4⟩ := plainC_of hp
  refine wpAny_bind (wpAny_mono (wpAny_comprehension_free (use := some (assign (.Name y py) env)) (Q := Po G fun _ => Q .next) rfl hs (clos_of hcl) p3 p2 (q.thn fun xv h1 t1 q => q.thn fun it h2 t2 q => ?_)) (fun _ s' ⟨h', t', e, z⟩ => wpAny_pure (wpAny_pure ⟨h', t', e, z⟩)) fun _ _ e => e)
  obtain ⟨cl', c1, -, -, z⟩ := q.run t2
  have : cl' = cl := by
    have e := c1.symm.trans (clos_of hcl)
    exact (Sem.pure.inj e)
  subst this
  exact z
theorem lcg_use {elt iter : Expr} {x y : Str} {px py : Pos} {scope sc : Scope} {cl : List (Str × Addr)} {pos : Pos} {I : Addr} {n : Nat} {P : Nat → Value → Prop} {Ok : Nat → Obj → Prop} {oI : Obj} {Q : Value → Heap → Prop}
    (J : Nat → List Value → Pm → Led → Prop) (E : EOk sc env L) (T : It G A γ I n P Ok) (ok0 : Ok 0 oI) (S : St G an γ L m ((I, oI) :: led) h) (j0 : J 0 [] γ led) (hz : n ≤ 16000000)
    (hcl : closL env.cells scope.names [] = some cl) (hp : plainC scope x = true) (hy : sc.names.lookup y = some .local)
    (turn : Turn G A an L elt x scope sc cl env γ n P J)
    (fin : ∀ D ys k γ' γ'' led' h', ys.length = n → Sub γ γ' → Sub γ' γ'' → J n ys γ' led' → γ'' D = some (lo ys k) → St G an γ'' L (put m y (.ref D)) led' h' → Q .none h') : LCG G A env elt iter x px scope pos (some (assign (.Name y py) env)) Q (.ref I) h := .mk fun tk => by
  obtain ⟨p1, p2, p3, p4⟩ := plainC_of hp
  refine ⟨cl, clos_of hcl, p3, p2, lc_core (RR := fun acc C => compPost (MD G) A No (some (assign (.Name y py) env)) (Po G Q) acc C) J E T ok0 S j0 hz p1 p3 p4 turn fun D C oC mC ys k γ' γ'' led' h' t hl s1 s2 j hD hn S' => ?_⟩
  show wpAny _ A (assign (.Name y py) env (.ref D)) _ _ _
  refine wpAny_assign_Name (wpAny_mono ((n_store (A := A) (Q := fun _ h2 => St G an γ'' L (put m y (.ref D)) ((C, oC) :: led') h2) S' E (fun h2 z => z) hy).run t) (fun _ s2 ⟨h2, t2, e, S2⟩ => ?_) fun _ _ e => e.elim)
  subst e
  obtain ⟨o0, es0, ep0, e0, r0⟩ := hn
  have e1 : oC = o0 := by have := (S'.nw _ (.head _)).1; rw [e0] at this; cases this; rfl
  exact ⟨mC, ⟨oC, es0, ep0, (S2.nw _ (.head _)).1, e1 ▸ r0⟩, fun h'' hs => ⟨h'', t2, rfl, fin D ys k γ' γ'' led' h'' hl s1 s2 j hD (S2.lose hs.extBut)⟩⟩
end
/-! a def of the text with cells, called -/
inductive CellsAre (cm : Str → Option Value) : List (Str × Addr) → Led → Prop
  | nil : CellsAre cm [] []
  | cons {n : Str} {c : Addr} {o : Obj} {v : Option Value} {r : List (Str × Addr)} {l : Led} : o.data = .cell v → v = cm n → CellsAre cm r l → CellsAre cm ((n, c) :: r) ((c, o) :: l)
theorem cells_are {h : Heap} {cm : Str → Option Value} : ∀ {cs : List (Str × Addr)}, (∀ n c, (n, c) ∈ cs → h.IsCell c (cm n)) → ∃ l : Led, CellsAre cm cs l ∧ l.map (·.1) = cs.map (·.2) ∧ ∀ p ∈ l, h.get? p.1 = some p.2
  | [], _ => ⟨[], .nil, rfl, fun _ h => nomatch h⟩
  | (n, c) :: r, H => by
    obtain ⟨o, e, d⟩ := H n c (.head _)
    obtain ⟨l, a, b, k⟩ := cells_are (cs := r) fun n c hm => H n c (.tail _ hm)
    exact ⟨(c, o) :: l, .cons d rfl a, by simp [b], fun p hp => by
      rcases List.mem_cons.mp hp with rfl | hp
      · exact e
      · exact k p hp⟩
theorem cells_led {h : Heap} {cm : Str → Option Value} {cs : List (Str × Addr)} (H : ∀ n c, cs.lookup n = some c → h.IsCell c (cm n)) (hn : (cs.map (·.1)).Nodup) : ∀ n c, (n, c) ∈ cs → h.IsCell c (cm n) := fun n c hm => H n c (by
  induction cs with
  | nil => cases hm
  | cons p r ih =>
    obtain ⟨k, a⟩ := p
    rw [List.map_cons, List.nodup_cons] at hn
    rcases List.mem_cons.mp hm with e | hm
    · cases e; simp [List.lookup_cons]
    · have hne : n ≠ k := fun q => hn.1 (q ▸ List.mem_map_of_mem (f := (·.1)) hm)
      have hb : (n == k) = false := by simpa using hne
      rw [List.lookup_cons, hb]
      exact ih (fun n' c' e => H n' c' (by
        have : n' ≠ k := fun q => hn.1 (by subst q; exact List.mem_map_of_mem (f := (·.1)) (mem_of_lookup e))
        have hb' : (n' == k) = false := by simpa using this
        rw [List.lookup_cons, hb']; exact e)) hn.2 hm)
theorem bindL_eq {k : Str → Option NameKind} : ∀ (l : List (Str × Value)) (m : Mp), bindL k l m = puts m (l.filter fun p => decide (k p.1 = some .local))
  | [], _ => rfl
  | (n, v) :: r, m => by
    unfold bindL
    by_cases q : k n = some .local
    · rw [if_pos q, bindL_eq r, List.filter_cons_of_pos (by simpa using q)]; rfl
    · rw [if_neg q, bindL_eq r, List.filter_cons_of_neg (by simpa using q)]
theorem bindC_eq {k : Str → Option NameKind} : ∀ (l : List (Str × Value)) (m : Mp), bindC k l m = puts m (l.filter fun p => !decide (k p.1 = some .local))
  | [], _ => rfl
  | (n, v) :: r, m => by
    unfold bindC
    by_cases q : k n = some .local
    · rw [if_pos q, bindC_eq r, List.filter_cons_of_neg (by simpa using q)]
    · rw [if_neg q, bindC_eq r, List.filter_cons_of_pos (by simpa using q)]; rfl
section
variable {G : Gl} {A : Around} {h : Heap} {γ : Pm} {cs : Led}
theorem call_defC (D : Gd G) (T : Sit G γ cs h) {st : Stmt} {nm ql : Str} {pm cd : Value} {f : Addr} {vals : List Value} {binds bl bc : List (Str × Value)} {cells : Nat → List (Str × Addr)} {R : Value → Heap → Prop} {n : Nat} (hr : Room A (n + 1))
    (ho : (KF G.w.params).lookup f = some (fnO st nm ql pm cd)) (hcd : codeIn (KF G.w.params) cd ql = true) (hbind : bindArgs (fnD st nm ql pm cd) ⟨vals, []⟩ = Pure.pure binds)
    (hcells : ∀ N, cellsFrom N (fSco st).names [] = cells N) (hnd : ((cells 0).map (·.1)).Nodup) (hnm : ∀ N, (cells N).map (·.1) = (cells 0).map (·.1))
    (hbl : (binds.filter fun p => decide ((fSco st).names.lookup p.1 = some .local)) = bl) (hbc : (binds.filter fun p => !decide ((fSco st).names.lookup p.1 = some .local)) = bc)
    (hin : ∀ x ∈ bc, (fSco st).names.lookup x.1 = some .cell ∧ x.1 ∈ (cells 0).map (·.1))
    (hco : (fSco st).isCoroutine = false) (hgen : (fSco st).isGenerator = false) (hk : (fSco st).kind = .function)
    (body : ∀ an L h₁ en A' ce, EOk (fSco st) en L → en.cells = cells (L + 1) → Room A' n → CellsAre (puts (fun _ => none) bc) (cells (L + 1)) ce → (∀ p ∈ ce, an.h0.objs.size ≤ p.1) →
      (∀ γ' m' led' h', St G an γ' L m' led' h' → Post γ h (cs.map (·.1)) γ' h') →
      St G an γ L (puts (fun _ => none) bl) (ce ++ cs) h₁ → WP G A' (execs (fBod st) en) (fun fl h' => R (match fl with | .ret v => v | _ => .none) h') h₁) :
    CD G A (.call (.ref f) ⟨vals, []⟩) (Ret R) h := .mk fun tk => by
  have X : (KF G.w.params).In h := D.kin.keeps fun b o e => T.on _ _ (T.base b o e)
  have hk0 : ∀ b o, G.hB.get? b = some o → h.get? b = some o := fun b o e => T.on _ _ (T.base b o e)
  have look : ∀ {l : List (Str × Addr)} {x : Str}, x ∈ l.map (·.1) → (l.lookup x).isSome = true := by
    intro l x hx
    induction l with
    | nil => simp at hx
    | cons p r ih =>
      obtain ⟨a, b⟩ := p
      rw [List.lookup_cons]
      by_cases e : x = a
      · subst e; simp
      · have hb : (x == a) = false := by simpa using e
        rw [hb]
        rw [List.map_cons] at hx
        rcases List.mem_cons.mp hx with q | q
        · exact absurd q e
        · exact ih q
  refine codeAny_call_cells (s := sh G h tk) (fd := fnD st nm ql pm cd) (body := fBod st) (binds := binds) (by have := hr.d; omega) (X _ _ ho) rfl (D.top.nolimit.keeps hk0) (codeRec_of X hcd) rfl hbind rfl (fun x hx => ?_) (fun s₁ C => ?_) hco hgen hk
  · by_cases q : (fSco st).names.lookup x.1 = some .local
    · exact .inl q
    · have hm : x ∈ bc := hbc ▸ List.mem_filter.mpr ⟨hx, by simpa using q⟩
      refine .inr ⟨(hin x hm).1, ?_⟩
      show ((cellsFrom (h.objs.size + 1) (fSco st).names []).lookup x.1).isSome = true
      rw [hcells]
      exact look (hnm (h.objs.size + 1) ▸ (hin x hm).2)
  · obtain ⟨I, hcell, hap, hab⟩ := C
    obtain ⟨⟨h₁, t₁, rfl⟩, hns, hkeep, hL⟩ := I
    change Heap.Ns h₁ h.objs.size (bindL (callEnvC (fnD st nm ql pm cd) h.objs.size f).kindOf binds fun _ => none) at hns
    change ∀ n c, (callEnvC (fnD st nm ql pm cd) h.objs.size f).cells.lookup n = some c → h₁.IsCell c (bindC (callEnvC (fnD st nm ql pm cd) h.objs.size f).kindOf binds (fun _ => none) n) at hcell
    change (callEnvC (fnD st nm ql pm cd) h.objs.size f).cells.Pairwise _ at hap
    change ∀ n c, (n, c) ∈ (callEnvC (fnD st nm ql pm cd) h.objs.size f).cells → h.objs.size < c at hab
    change ∀ b o, h.get? b = some o → h₁.get? b = some o at hkeep
    have ecells : (callEnvC (fnD st nm ql pm cd) h.objs.size f).cells = cells (h.objs.size + 1) := hcells _
    have ekind : (callEnvC (fnD st nm ql pm cd) h.objs.size f).kindOf = fun x => (fSco st).names.lookup x := rfl
    rw [ekind] at hns hcell
    rw [bindL_eq, hbl] at hns
    rw [bindC_eq, hbc, ecells] at hcell
    rw [ecells] at hap hab
    obtain ⟨ce, c1, c2, c3⟩ := cells_are (cells_led hcell (by rw [hnm]; exact hnd))
    have above : ∀ p ∈ ce, h.objs.size < p.1 := fun p hp => by
      have : p.1 ∈ (cells (h.objs.size + 1)).map (·.2) := c2 ▸ List.mem_map_of_mem hp
      obtain ⟨q, hq, e⟩ := List.mem_map.mp this
      exact e ▸ hab q.1 q.2 hq
    have gnone : ∀ a, h.objs.size ≤ a → γ a = none := fun a ha => by
      cases q : γ a with
      | none => rfl
      | some o => exact absurd (get_lt (T.on _ _ q)) (Nat.not_lt.mpr ha)
    have S : St G ⟨γ, h, cs.map (·.1)⟩ γ h.objs.size (puts (fun _ => none) bl) (ce ++ cs) h₁ := {
      base := T.base
      sub := Sub.refl γ
      gro := fun a o e => .inl e
      on := fun a o e => hkeep _ _ (T.on a o e)
      ext := fun a o e _ => hkeep _ _ e
      ns := hns
      gL := gnone _ (Nat.le_refl _)
      hL := Nat.le_refl _
      nw := fun p hp => by
        rcases List.mem_append.mp hp with hp | hp
        · exact ⟨c3 p hp, gnone _ (Nat.le_of_lt (above p hp)), .inr (Nat.le_of_lt (above p hp))⟩
        · exact ⟨hkeep _ _ (T.at_ p hp).1, (T.at_ p hp).2, .inl (List.mem_map_of_mem hp)⟩
      nd := by
        rw [List.map_append, c2]
        have old : ∀ a ∈ cs.map (·.1), a < h.objs.size := fun a ha => by
          obtain ⟨p, hp, e⟩ := List.mem_map.mp ha
          exact e ▸ get_lt (T.at_ p hp).1
        have abv : ∀ a ∈ (cells (h.objs.size + 1)).map (·.2), h.objs.size < a := fun a ha => by
          obtain ⟨q, hq, e⟩ := List.mem_map.mp ha
          exact e ▸ hab q.1 q.2 hq
        refine List.nodup_cons.mpr ⟨fun q => ?_, List.nodup_append.mpr ⟨?_, T.nd, fun a ha b hb e => ?_⟩⟩
        · rcases List.mem_append.mp q with q | q
          · exact absurd (abv _ q) (Nat.lt_irrefl _)
          · exact absurd (old _ q) (Nat.lt_irrefl _)
        · exact List.pairwise_map.mpr (hap.imp fun z => z)
        · subst e; exact absurd (Nat.lt_trans (abv _ ha) (old _ hb)) (Nat.lt_irrefl _) }
    refine wpAny_mono ((body _ _ h₁ _ _ ce ⟨rfl, rfl, rfl, rfl, hk⟩ ecells hr.deeper c1 (fun p hp => Nat.le_of_lt (above p hp)) (fun _ _ _ _ S' => S'.post) S).run t₁) (fun fl s' ⟨h', t', e, q⟩ => ⟨_, h', t', rfl, e, _, rfl, q⟩) fun _ _ e => e.elim
end
/-! the keys of the bank's table -/
structure TKey where
  op : Str
  args : List Int
  data : Int
deriving DecidableEq
section
variable {prog : Program} {w : World}
def IsKey (prog : Program) (w : World) (h : Heap) (k : TKey) (a : Addr) : Prop := ∃ o t1 c t3 t4 n, h.get? a = some o ∧ o.cls = .type "tuple" ∧ o.data = .seq #[.str k.op t1, .ref c, .int 0 t3, .int k.data t4] n ∧ IsTupleKey (intKind prog w) h k.args c
def keyHash (prog : Program) (w : World) (k : TKey) : Int := reduceHash (Builtin.Tuple.tupleHashOf [(strKind prog w).hash k.op, tupleKeyHash (intKind prog w) k.args, (intKind prog w).hash 0, (intKind prog w).hash k.data])
variable {A : Around} {E : Value → Shared → Prop} {s : Shared}
theorem IsKey.typeIs {k : TKey} {a : Addr} (x : IsKey prog w s.heap k a) : s.TypeIs (.ref a) "tuple" := let ⟨o, _, _, _, _, _, ho, hc, _⟩ := x; ⟨o, ho, hc⟩
theorem IsKey.inj {h : Heap} {a : Addr} {x y : TKey} (hx : IsKey prog w h x a) (hy : IsKey prog w h y a) : x = y := by
  obtain ⟨o, t1, c, t3, t4, n, ho, _, hd, hi⟩ := hx
  obtain ⟨o', t1', c', t3', t4', n', ho', _, hd', hi'⟩ := hy
  rw [ho] at ho'; cases ho'
  rw [hd] at hd'
  simp only [Data.seq.injEq, Array.mk.injEq, List.cons.injEq, Value.str.injEq, Value.ref.injEq, Value.int.injEq] at hd'
  obtain ⟨⟨⟨e1, -⟩, e2, -, ⟨e4, -⟩, -⟩, -⟩ := hd'
  subst e2
  have := hi.inj hi'
  obtain ⟨a1, a2, a3⟩ := x; obtain ⟨b1, b2, b3⟩ := y
  simp only at e1 e4 this
  subst e1 e4 this; rfl
theorem IsKey.keeps {h h' : Heap} {k : TKey} {a d : Addr} {o : Obj} {es ep} (x : IsKey prog w h k a) (ho : h.get? d = some o) (hd : o.data = .dict es ep) (hs : Heap.SameBut d h h') : IsKey prog w h' k a := by
  obtain ⟨o', t1, c, t3, t4, n, ho', hc, hd', hi⟩ := x
  have hne : a ≠ d := by
    rintro rfl
    rw [ho'] at ho; cases ho
    rw [hd] at hd'; exact nomatch hd'
  exact ⟨o', t1, c, t3, t4, n, (hs.2 a hne).trans ho', hc, hd', hi.keeps ho hd hs⟩
theorem key_hash {k : TKey} {a : Addr} {Q : Int → Shared → Prop} (hu : A.units + 9 < cLine) (hk : IsKey prog w s.heap k a) (h : Q (keyHash prog w k) { s with toks := s.toks + (k.args.length + 5) }) : wpAny (model prog w) A (pyHash (.ref a)) Q E s := by
  have hT := hk.typeIs
  obtain ⟨o, t1, c, t3, t4, n, ho, _, hd, hi⟩ := hk
  unfold pyHash
  first | unfold pyHashByItsType | skip
  first | refine wpAny_bind (wpAny_cRoomFor_or (.inr (by omega)) ?_) | skip
  refine wpAny_bind (wpAny_specialOf hT F.slot_tuple_hash.lookup ?_)
  show wpAny _ _ (if (some (Value.builtin "tuple.__hash__") == some Value.none) = true then _ else _) Q E s
  rw [if_neg (by rw [beq_builtin_none]; exact Bool.false_ne_true)]
  refine wpAny_bind (wpAny_specialOf hT F.slot_tuple_hash.lookup ?_)
  show wpAny _ _ (callSpecialIfBoundUnlessNone? (.ref a) "__hash__" _ >>= _) Q E s
  refine wpAny_bind (wpAny_callSpecialIfBoundUnlessNone?_slot hT F.slot_tuple_hash (wpAny_call_entry F.slot_tuple_hash hT F.entry_tuple_hash ?_ (F.args_tuple_hash_1 _)))
  show wpAny _ _ (Builtin.Tuple.tupleItemsOf (.ref a) >>= _) _ _ s
  refine wpAny_bind (wpAny_tupleItemsOf ho hd ?_)
  refine wpAny_bind ?_
  rw [← Array.forIn_toList]
  simp only [List.forIn_cons, List.forIn_nil]
  refine wpAny_bind (wpAny_bind ((strKind prog w).pyHash (strKind_is prog w k.op t1) (wpAny_pure ?_)))
  dsimp only
  refine wpAny_bind (wpAny_bind (wpAny_pyHash_tuple (by show A.units + 1 < cLine; omega) hi (wpAny_pure ?_)))
  dsimp only
  refine wpAny_bind (wpAny_bind ((intKind prog w).pyHash (intKind_is prog w 0 t3) (wpAny_pure ?_)))
  dsimp only
  refine wpAny_bind (wpAny_bind ((intKind prog w).pyHash (intKind_is prog w k.data t4) (wpAny_pure ?_)))
  dsimp only
  refine wpAny_pure ?_
  show wpAny _ _ (retInt (Builtin.Tuple.tupleHashOf [(strKind prog w).hash k.op, tupleKeyHash (intKind prog w) k.args, (intKind prog w).hash 0, (intKind prog w).hash k.data])) _ _ _
  unfold keyHash at h
  generalize Builtin.Tuple.tupleHashOf [(strKind prog w).hash k.op, tupleKeyHash (intKind prog w) k.args, (intKind prog w).hash 0, (intKind prog w).hash k.data] = z at h
  refine wpAny_ret_mkInt ?_
  show wpAny _ _ (if (decide (-(2 : Int) ^ 63 ≤ z) && decide (z < 2 ^ 63)) = true then _ else _) Q E _
  unfold reduceHash at h
  have et : s.toks + 1 + (k.args.length + 1) + 1 + 1 + 1 = s.toks + (k.args.length + 5) := by omega
  by_cases hr : (decide (-(2 : Int) ^ 63 ≤ z) && decide (z < 2 ^ 63)) = true
  · rw [if_pos hr]
    rw [if_pos hr] at h
    refine wpAny_pure ?_
    show Q _ { s with toks := s.toks + 1 + (k.args.length + 1) + 1 + 1 + 1 }
    rw [et]; exact h
  · rw [if_neg hr]
    rw [if_neg hr] at h
    refine wpAny_bind (wpAny_rule (wpAny_pure ?_))
    show Q _ { s with toks := s.toks + 1 + (k.args.length + 1) + 1 + 1 + 1 }
    rw [et]; exact h
theorem key_eq_tree {x y : TKey} {a b : Addr} {P : Fin → Shared → Prop} (hu : A.units + 3 < cLine) (hx : IsKey prog w s.heap x a) (hy : IsKey prog w s.heap y b) (h : P (.done (.ret (.bool (decide (x = y))))) s) :
    wpAny (model prog w) A (Builtin.«tuple.__eq__» ⟨[.ref a, .ref b], []⟩) P E s := by
  have hTb := hy.typeIs
  obtain ⟨oa, t1, c, t3, t4, n, hoa, _, hda, hia⟩ := hx
  obtain ⟨ob, u1, d, u3, u4, nb, hob, _, hdb, hib⟩ := hy
  show wpAny _ _ (isInstance (.ref b) (.type "tuple") >>= _) _ _ s
  refine wpAny_bind (wpAny_isInstance hTb isSubtype_tuple_tuple ?_)
  simp only [Bool.not_true, Bool.false_eq_true, if_false]
  refine wpAny_bind (wpAny_tupleItemsOf hoa hda ?_)
  refine wpAny_bind (wpAny_tupleItemsOf hob hdb ?_)
  refine wpAny_bind ?_
  simp only [List.zip_cons_cons, List.zip_nil_right, List.forIn_cons, List.forIn_nil]
  have no : x ≠ y → P (.done (.ret (.bool false))) s := fun q => by rw [decide_eq_false q] at h; exact h
  refine wpAny_bind (wpAny_bind ((strKind prog w).eqBool (a := x.op) (b := y.op) (strKind_is prog w x.op t1) (strKind_is prog w y.op u1) ?_))
  by_cases q1 : x.op = y.op
  · rw [decide_eq_true q1]
    simp only [Bool.not_true, Bool.false_eq_true, if_false]
    refine wpAny_pure ?_
    dsimp only
    refine wpAny_bind (wpAny_bind (wpAny_eqBool_tuple (by omega) hia hib ?_))
    by_cases q2 : x.args = y.args
    · rw [decide_eq_true q2]
      simp only [Bool.not_true, Bool.false_eq_true, if_false]
      refine wpAny_pure ?_
      dsimp only
      refine wpAny_bind (wpAny_bind ((intKind prog w).eqBool (a := 0) (b := 0) (intKind_is prog w 0 t3) (intKind_is prog w 0 u3) ?_))
      rw [decide_eq_true rfl]
      simp only [Bool.not_true, Bool.false_eq_true, if_false]
      refine wpAny_pure ?_
      dsimp only
      refine wpAny_bind (wpAny_bind ((intKind prog w).eqBool (a := x.data) (b := y.data) (intKind_is prog w x.data t4) (intKind_is prog w y.data u4) ?_))
      by_cases q3 : x.data = y.data
      · rw [decide_eq_true q3]
        simp only [Bool.not_true, Bool.false_eq_true, if_false]
        refine wpAny_pure ?_
        dsimp only
        refine wpAny_pure ?_
        have : x = y := by obtain ⟨a1, a2, a3⟩ := x; obtain ⟨b1, b2, b3⟩ := y; simp only at q1 q2 q3; subst q1 q2 q3; rfl
        rw [decide_eq_true this] at h
        exact wpAny_pure h
      · rw [decide_eq_false q3]
        simp only [Bool.not_false, if_true]
        exact wpAny_bind (wpAny_pure (wpAny_pure (wpAny_pure (wpAny_pure (no fun e => q3 (by rw [e]))))))
    · rw [decide_eq_false q2]
      simp only [Bool.not_false, if_true]
      exact wpAny_bind (wpAny_pure (wpAny_pure (wpAny_pure (wpAny_pure (no fun e => q2 (by rw [e]))))))
  · rw [decide_eq_false q1]
    simp only [Bool.not_false, if_true]
    exact wpAny_bind (wpAny_pure (wpAny_pure (wpAny_pure (wpAny_pure (no fun e => q1 (by rw [e]))))))
theorem key_eq {x y : TKey} {a b : Addr} {Q : Bool → Shared → Prop} (hu : A.units + 9 < cLine) (hx : IsKey prog w s.heap x a) (hy : IsKey prog w s.heap y b) (h : Q (decide (x = y)) s) :
    wpAny (model prog w) A (eqBool (.ref a) (.ref b)) Q E s := by
  unfold eqBool
  try with_reducible refine wpAny_holding ?_
  show wpAny _ _ (if (Value.ref a == Value.ref b) = true then _ else _) Q E s
  by_cases hab : (Value.ref a == Value.ref b) = true
  · rw [if_pos hab]
    have e : a = b := by have := eq_of_beq hab; injection this
    subst e
    obtain rfl := hx.inj hy
    exact wpAny_bind (wpAny_rule (wpAny_pure (by simpa using h)))
  · rw [if_neg hab]
    exact wpAny_bind (wpAny_richCompare_same_room (op := .Eq) hx.typeIs hy.typeIs F.slot_tuple_eq
      (wpAny_call_entry F.slot_tuple_eq hx.typeIs F.entry_tuple_eq (key_eq_tree (by show A.units + 1 + 3 < cLine; omega) hx hy ⟨_, rfl, (fun e => nomatch e), wpAny_truthy_bool h⟩) (F.args_tuple_eq_2 _ _)) (by omega))
theorem quiet_ints {n : Nat} {ks : List Int} {a : Addr} {Q : Bool → Shared → Prop} (hk : IsTupleKey (intKind prog w) s.heap ks a) (h : Q true s) : wpAny (model prog w) A (eqIsQuiet (n + 1) (.ref a)) Q E s := by
  have hT := hk.typeIs
  obtain ⟨o, items, m, ho, _, hd, hi⟩ := hk
  unfold eqIsQuiet
  refine wpAny_bind (wpAny_specialOf hT F.slot_tuple_eq.lookup ?_)
  show wpAny _ _ (isInstance (.ref a) (.type "tuple") >>= _) _ _ s
  refine wpAny_bind (wpAny_isInstance hT isSubtype_tuple_tuple ?_)
  simp only [Bool.not_true, Bool.false_eq_true, if_false]
  refine wpAny_bind (wpAny_seqItems ho hd ?_)
  refine wpAny_bind ?_
  show wpAny _ _ (forIn items _ _) _ _ s
  rw [← Array.forIn_toList]
  refine wpAny_forIn_list _ (fun rest r s' => r.1 = none ∧ s' = s ∧ ∀ v ∈ rest, carriedByValue v = true) _ ?_ ?_ _ _ ⟨rfl, rfl, hi.byValue⟩
  · rintro v rest r s' ⟨hr, rfl, hall⟩
    rw [eqIsQuiet_byValue _ (hall v List.mem_cons_self)]
    refine wpAny_bind (wpAny_pure ?_)
    simp only [Bool.not_true, Bool.false_eq_true, if_false]
    exact wpAny_pure ⟨rfl, rfl, fun u hu' => hall u (List.mem_cons_of_mem _ hu')⟩
  · rintro ⟨r1, r2⟩ s' ⟨hr, rfl, _⟩
    simp only at hr
    subst hr
    exact wpAny_pure h
theorem key_quiet {k : TKey} {a : Addr} {Q : Bool → Shared → Prop} (hk : IsKey prog w s.heap k a) (h : Q true s) : wpAny (model prog w) A (eqIsQuiet 8 (.ref a)) Q E s := by
  have hT := hk.typeIs
  obtain ⟨o, t1, c, t3, t4, n, ho, _, hd, hi⟩ := hk
  unfold eqIsQuiet
  refine wpAny_bind (wpAny_specialOf hT F.slot_tuple_eq.lookup ?_)
  show wpAny _ _ (isInstance (.ref a) (.type "tuple") >>= _) _ _ s
  refine wpAny_bind (wpAny_isInstance hT isSubtype_tuple_tuple ?_)
  simp only [Bool.not_true, Bool.false_eq_true, if_false]
  refine wpAny_bind (wpAny_seqItems ho hd ?_)
  refine wpAny_bind ?_
  show wpAny _ _ (forIn (#[Value.str k.op t1, .ref c, .int 0 t3, .int k.data t4] : Array Value) _ _) _ _ s
  rw [← Array.forIn_toList]
  simp only [List.forIn_cons, List.forIn_nil]
  rw [eqIsQuiet_byValue 7 (v := .str k.op t1) rfl, eqIsQuiet_byValue 7 (v := .int 0 t3) rfl, eqIsQuiet_byValue 7 (v := .int k.data t4) rfl]
  simp only [pure_bind, Bool.not_true, Bool.false_eq_true, if_false]
  refine wpAny_bind (wpAny_bind (quiet_ints hi ?_))
  simp only [Bool.not_true, Bool.false_eq_true, if_false]
  exact wpAny_pure (wpAny_pure (wpAny_pure h))
end
def keyKind (prog : Program) (w : World) : HeapKind prog w TKey where
  is := IsKey prog w
  hash := keyHash prog w
  draws := fun k => k.args.length + 5
  room := fun A => A.units + 9 < cLine
  inj := fun hx hy => hx.inj hy
  keeps := fun x ho hd hs => x.keeps ho hd hs
  pyHash := fun hu hk h => key_hash hu hk h
  eqBool := fun hu hx hy h => key_eq hu hx hy h
  quiet := fun hk h => key_quiet hk h
theorem Room.under {A : Around} {n : Nat} {C : Addr} {rest : List Value} (R : Room A (n + 1)) : Room (A.under (.builtin "type.__call__" ⟨.ref C :: rest, []⟩)) n := by
  have e1 : (A.under (.builtin "type.__call__" ⟨.ref C :: rest, []⟩)).depth = A.depth + 1 := rfl
  have e2 : (A.under (.builtin "type.__call__" ⟨.ref C :: rest, []⟩)).units = A.units + 1 := rfl
  exact ⟨by have := R.d; rw [e1]; omega, by have := R.u; rw [e2]; omega, R.h⟩
/-! the bank -/
structure BC where
  b : Addr
  v1 : Addr
  v2 : Addr
  f1 : Addr
  f2 : Addr
  f3 : Addr
  t0 : Tok
  a1 : Addr
  a2 : Addr
  a3 : Addr
  a4 : Addr
  a5 : Addr
abbrev bkv (c : BC) (rest : List (Str × Value)) : List (Str × Value) :=
  (Str.ofString "sort_names", .ref c.v1) :: (Str.ofString "sort_widths", .ref c.v2) :: (Str.ofString "fun_names", .ref c.f1) :: (Str.ofString "fun_args", .ref c.f2) :: (Str.ofString "fun_results", .ref c.f3) ::
  (Str.ofString "fresh_count", .int 0 c.t0) :: (Str.ofString "term_ops", .ref c.a1) :: (Str.ofString "term_args", .ref c.a2) :: (Str.ofString "term_sorts", .ref c.a3) :: (Str.ofString "term_datas", .ref c.a4) :: (Str.ofString "numbers", .ref c.a5) :: rest
abbrev bful (t1 t2 : Tok) : List (Str × Value) := [(Str.ofString "true_number", .int 1 t1), (Str.ofString "false_number", .int 2 t2)]
structure BO where
  o1 : Obj
  o2 : Obj
  o3 : Obj
  o4 : Obj
  o5 : Obj
abbrev bcs (c : BC) (o : BO) : Led := [(c.a1, o.o1), (c.a2, o.o2), (c.a3, o.o3), (c.a4, o.o4), (c.a5, o.o5)]
/-- a tuple of ints that is kept -/
def TupI (γ : Pm) (a : Addr) (ns : List Int) : Prop := ∃ vs n, γ a = some (tu vs n) ∧ IntsAre vs ns
theorem TupI.sub {γ γ' : Pm} {a : Addr} {ns : List Int} (s : Sub γ γ') : TupI γ a ns → TupI γ' a ns | ⟨vs, n, e, i⟩ => ⟨vs, n, s _ _ e, i⟩
theorem items_of {prog : Program} {w : World} {vs : List Value} {ns : List Int} (i : IntsAre vs ns) : ItemsAre (intKind prog w) ns vs := by
  induction i with
  | nil => exact .nil
  | cons n t _ ih => exact .cons (intKind_is prog w n t) ih
theorem TupI.key {prog : Program} {w : World} {γ : Pm} {h : Heap} {a : Addr} {ns : List Int} (on : On γ h) : TupI γ a ns → IsTupleKey (intKind prog w) h ns a | ⟨vs, n, e, i⟩ => ⟨_, _, n, on _ _ e, rfl, rfl, by simpa using items_of i⟩
def KeyAt (γ : Pm) (k : TKey) (a : Addr) : Prop := ∃ t1 c t3 t4 n, γ a = some (tu [.str k.op t1, .ref c, .int 0 t3, .int k.data t4] n) ∧ TupI γ c k.args
theorem KeyAt.sub {γ γ' : Pm} {a : Addr} {k : TKey} (s : Sub γ γ') : KeyAt γ k a → KeyAt γ' k a | ⟨t1, c, t3, t4, n, e, i⟩ => ⟨t1, c, t3, t4, n, s _ _ e, i.sub s⟩
theorem KeyAt.is {prog : Program} {w : World} {γ : Pm} {h : Heap} {a : Addr} {k : TKey} (on : On γ h) : KeyAt γ k a → IsKey prog w h k a | ⟨t1, c, t3, t4, n, e, i⟩ => ⟨_, t1, c, t3, t4, n, on _ _ e, rfl, rfl, i.key on⟩
abbrev Kk (G : Gl) : HeapKind pw G.w TKey := keyKind pw G.w
/-- the table, with its keys -/
def Tab (G : Gl) (γ : Pm) (o : Obj) (xs : List (TKey × Addr × Value)) : Prop := o.ExactDict ∧ ∃ es ep, o.data = .dict es ep ∧ es.toList = xs.map (entryOfKey (Kk G)) ∧ (∀ x ∈ xs, KeyAt γ x.1 x.2.1) ∧ (xs.map (·.1)).Nodup
theorem Tab.dict {G : Gl} {γ : Pm} {o : Obj} {xs : List (TKey × Addr × Value)} {h : Heap} {d : Addr} (T : Tab G γ o xs) (on : On γ h) (e : h.get? d = some o) : h.DictOfH (Kk G) d xs := by
  obtain ⟨a, es, ep, b, c, k, n⟩ := T
  exact ⟨o, es, ep, e, a, b, c, fun x hx => (k x hx).is on, n⟩
theorem Tab.sub {G : Gl} {γ γ' : Pm} {o : Obj} {xs : List (TKey × Addr × Value)} (s : Sub γ γ') : Tab G γ o xs → Tab G γ' o xs
  | ⟨a, es, ep, b, c, k, n⟩ => ⟨a, es, ep, b, c, fun x hx => (k x hx).sub s, n⟩
theorem Tab.of {G : Gl} {γ : Pm} {o : Obj} {xs : List (TKey × Addr × Value)} {h : Heap} {d : Addr} (D : h.DictOfH (Kk G) d xs) (e : h.get? d = some o) (k : ∀ x ∈ xs, KeyAt γ x.1 x.2.1) : Tab G γ o xs := by
  obtain ⟨o', es, ep, e', a, b, c, -, n⟩ := D
  rw [e] at e'; cases e'
  exact ⟨a, es, ep, b, c, k, n⟩
/-- what the five parts of a bank hold: B is the list of its terms, the first one is no term -/
structure BR (G : Gl) (γ : Pm) (o : BO) (B : List TKey) : Prop where
  l1 : ∃ (vs : List Value) (e : Nat), o.o1 = lo vs e ∧ vs.length = B.length ∧ ∀ (i : Nat) (k : TKey), B[i]? = some k → ∃ t, vs[i]? = some (.str k.op t)
  l2 : ∃ (vs : List Value) (e : Nat), o.o2 = lo vs e ∧ vs.length = B.length ∧ ∀ (i : Nat) (k : TKey), B[i]? = some k → ∃ a, vs[i]? = some (.ref a) ∧ TupI γ a k.args
  l3 : ∃ (vs : List Value) (e : Nat), o.o3 = lo vs e ∧ vs.length = B.length ∧ ∀ (i : Nat) (k : TKey), B[i]? = some k → ∃ t, vs[i]? = some (.int 0 t)
  l4 : ∃ (vs : List Value) (e : Nat), o.o4 = lo vs e ∧ vs.length = B.length
  tab : ∃ xs, Tab G γ o.o5 xs ∧ (∀ (k : TKey) (p : Addr) (v : Value), (k, p, v) ∈ xs → ∃ (i : Nat) (t : Tok), 0 < i ∧ v = .int (i : Nat) t ∧ B[i]? = some k) ∧ (∀ (i : Nat) (k : TKey), 0 < i → B[i]? = some k → ∃ p t, atKey xs k = some (p, .int (i : Nat) t)) ∧ xs.length + 1 = B.length
theorem BR.sub {G : Gl} {γ γ' : Pm} {o : BO} {B : List TKey} (s : Sub γ γ') (R : BR G γ o B) : BR G γ' o B where
  l1 := R.l1
  l2 := let ⟨vs, e, a, b, c⟩ := R.l2; ⟨vs, e, a, b, fun i k q => let ⟨x, y, z⟩ := c i k q; ⟨x, y, z.sub s⟩⟩
  l3 := R.l3
  l4 := R.l4
  tab := let ⟨xs, T, r⟩ := R.tab; ⟨xs, T.sub s, r⟩
theorem BR.uni {G : Gl} {γ : Pm} {o : BO} {B : List TKey} (R : BR G γ o B) {i j : Nat} {k : TKey} (hi : 0 < i) (hj : 0 < j) (a : B[i]? = some k) (b : B[j]? = some k) : i = j := by
  obtain ⟨xs, T, -, f, -⟩ := R.tab
  obtain ⟨p, t, e⟩ := f i k hi a
  obtain ⟨p', t', e'⟩ := f j k hj b
  rw [e] at e'
  simp only [Option.some.injEq, Prod.mk.injEq, Value.int.injEq] at e'
  omega
/-- a term made, or found again -/
def Made (B : List TKey) (k : TKey) (i : Nat) (B' : List TKey) : Prop := 0 < i ∧ B'[i]? = some k ∧ ((B' = B) ∨ (i = B.length ∧ B' = B ++ [k]))
theorem Made.pre {B B' : List TKey} {k : TKey} {i : Nat} (M : Made B k i B') : B <+: B' := by
  rcases M.2.2 with e | ⟨-, e⟩
  · rw [e]; exact List.prefix_rfl
  · rw [e]; exact List.prefix_append ..
theorem Made.len {B B' : List TKey} {k : TKey} {i : Nat} (M : Made B k i B') : B'.length ≤ B.length + 1 := by
  rcases M.2.2 with e | ⟨-, e⟩
  · rw [e]; omega
  · rw [e]; simp
theorem pre_get {α : Type} {B B' : List α} (p : B <+: B') {i : Nat} {k : α} (e : B[i]? = some k) : B'[i]? = some k := by
  obtain ⟨r, rfl⟩ := p
  rw [List.getElem?_append_left (by
    by_cases q : i < B.length
    · exact q
    · rw [List.getElem?_eq_none (by omega)] at e; cases e)]
  exact e
theorem get_snoc {α : Type} {B : List α} {i : Nat} {k k' : α} (e : (B ++ [k])[i]? = some k') : B[i]? = some k' ∨ (i = B.length ∧ k' = k) := by
  by_cases q : i < B.length
  · rw [List.getElem?_append_left q] at e; exact .inl e
  · rw [List.getElem?_append_right (by omega)] at e
    by_cases z : i - B.length = 0
    · rw [z] at e; simp at e; exact .inr ⟨by omega, e.symm⟩
    · rw [List.getElem?_eq_none (by simp; omega)] at e; cases e
section
variable {G : Gl} {A : Around} {h : Heap} {env : Env} {an : An} {γ : Pm} {L : Addr} {m : Mp} {led : Led}
/-! the methods of dicts -/
theorem dm_get {a : Addr} {o : Obj} {pl : Sem Bool} {Q : Value × List Value → Heap → Prop} (e : h.get? a = some o) (x : o.ExactDict) (q : Q (.builtin "dict.get", [.ref a]) h) : WP G A (getMethod (.ref a) "get" pl) Q h := .mk fun tk =>
  getMethod_builtin (s := sh G h tk) ⟨o, e, x.1⟩ F.plainAttrs_dict F.slot_dict_get F.type_dict_get (fun _ ha => by cases ha; exact ⟨o, e, x.2.1⟩) (Po.intro tk q)
theorem c_tget (D : Gd G) {d a : Addr} {o : Obj} {xs : List (TKey × Addr × Value)} {k : TKey} {dflt : Value} {n : Nat} {Q : Value → Heap → Prop} (hr : Room A (n + 1)) (S : St G an γ L m led h) (e : h.get? d = some o) (T : Tab G γ o xs) (hk : KeyAt γ k a) (hd : (d == sysModules) = false)
    (q : Q (((atKey xs k).map (·.2)).getD dflt) h) : WP G A (call (.builtin "dict.get") [.ref d, .ref a, dflt]) Q h := .mk fun tk =>
  call_meetsIn (s := sh G h tk) F.slot_dict_get ⟨o, e, T.1.1⟩ F.entry_dict_get (F.args_dict_get_3 _ _ _) (meetsH_dict_get_default (Kk G) d a hd dflt)
    ⟨by show A.units + 1 + 9 < cLine; have := hr.u; omega, k, xs, hk.is S.on, T.dict S.on e, Po.intro _ q⟩
theorem c_tset {d a : Addr} {o : Obj} {xs : List (TKey × Addr × Value)} {k : TKey} {v : Value} {n : Nat} {Q : Unit → Heap → Prop} (hr : Room A (n + 1)) (S : St G an γ L m led h) (hm : (d, o) ∈ led) (T : Tab G γ o xs) (hk : KeyAt γ k a) (hn : atKey xs k = none) (hz : xs.length ≤ 16000000)
    (q : ∀ o' h', Tab G γ o' (xs ++ [(k, a, v)]) → St G an γ L m (chg led d o') h' → Q () h') : WP G A (setItem (.ref d) (.ref a) v) Q h := .mk fun tk =>
  wpAny_setItem_heap (knd := Kk G) (hsz := small hz) (s := sh G h tk) (by show A.units + 1 + 9 < cLine; have := hr.u; omega) (hk.is S.on) (T.dict S.on (S.led_get hm)) fun h' hD hs => by
    obtain ⟨o', es, ep, e', a1, b1, c1, d1, n1⟩ := id hD
    rw [storedH_new hn] at hD
    refine Po.intro _ (q o' h' (Tab.of hD e' fun x hx => ?_) (S.upd hm hs e'))
    rcases List.mem_append.mp hx with hx | hx
    · obtain ⟨_, es, ep, _, _, kk, _⟩ := T; exact kk x hx
    · rw [List.mem_singleton] at hx; subst hx; exact hk
end
/-! one entry of the ledger changed, by its place -/
inductive UpdL (d : Addr) (o o' : Obj) : Led → Led → Prop
  | head {r : Led} : UpdL d o o' ((d, o) :: r) ((d, o') :: r)
  | tail {p : Addr × Obj} {r r' : Led} : UpdL d o o' r r' → UpdL d o o' (p :: r) (p :: r')
theorem UpdL.mem {d : Addr} {o o' : Obj} {l l' : Led} (u : UpdL d o o' l l') : (d, o) ∈ l := by
  induction u with
  | head => exact .head _
  | tail _ ih => exact .tail _ ih
theorem UpdL.chg {d : Addr} {o o' : Obj} {l l' : Led} (u : UpdL d o o' l l') (nd : (l.map (·.1)).Nodup) : chg l d o' = l' := by
  induction u with
  | head => exact chg_head nd
  | @tail p r r' u ih =>
    rw [List.map_cons, List.nodup_cons] at nd
    have hne : p.1 ≠ d := fun q => nd.1 (q ▸ List.mem_map_of_mem (f := (·.1)) u.mem)
    have := ih nd.2
    unfold Mine.chg at this ⊢
    rw [List.map_cons, this, if_neg hne]
section
variable {G : Gl} {A : Around} {h : Heap} {env : Env} {an : An} {γ : Pm} {L : Addr} {m : Mp} {led : Led}
theorem St.chgL {h' : Heap} {d : Addr} {o o' : Obj} {led' : Led} (u : UpdL d o o' led led') (nd : (L :: led.map (·.1)).Nodup) (S : St G an γ L m (chg led d o') h') : St G an γ L m led' h' := by
  rwa [u.chg (List.nodup_cons.mp nd).2] at S
theorem l_append {a : Addr} {vs : List Value} {n : Nat} {x : Value} {led' : Led} {Q : Value → Heap → Prop} (S : St G an γ L m led h) (u : UpdL a (lo vs n) (lo (vs ++ [x]) (n + 1)) led led') (hz : vs.length ≤ 16000000)
    (q : ∀ h', St G an γ L m led' h' → Q .none h') : WP G A (call (.builtin "list.append") [.ref a, x]) Q h := c_append S u.mem hz fun h' S' => q h' (S'.chgL u S.nd)
theorem l_tset {d a : Addr} {o : Obj} {xs : List (TKey × Addr × Value)} {k : TKey} {v : Value} {n : Nat} {ld : Obj → Led} {Q : Unit → Heap → Prop} (hr : Room A (n + 1)) (S : St G an γ L m led h) (u : ∀ o', UpdL d o o' led (ld o')) (T : Tab G γ o xs) (hk : KeyAt γ k a) (hn : atKey xs k = none) (hz : xs.length ≤ 16000000)
    (q : ∀ o' h', Tab G γ o' (xs ++ [(k, a, v)]) → St G an γ L m (ld o') h' → Q () h') : WP G A (setItem (.ref d) (.ref a) v) Q h := c_tset hr S (u o).mem T hk hn hz fun o' h' t S' => q o' h' t (S'.chgL (u o') S.nd)
theorem l_sets {d : Addr} {o : Obj} {kvs : List (Str × Value)} {k : Str} {t : Tok} {v : Value} {ld : Obj → Led} {Q : Unit → Heap → Prop} (S : St G an γ L m led h) (u : ∀ o', UpdL d o o' led (ld o')) (hd : o.IsDictOf (Skd G) kvs) (hz : kvs.length ≤ sizeLine)
    (q : ∀ o' h', o'.IsDictOf (Skd G) (stored kvs k v) → St G an γ L m (ld o') h' → Q () h') : WP G A (setItem (.ref d) (.str k t) v) Q h := set_dicts S (u o).mem hd hz fun o' h' t S' => q o' h' t (S'.chgL (u o') S.nd)
theorem l_seti {d : Addr} {o : Obj} {kvs : List (Int × Value)} {k : Int} {t : Tok} {v : Value} {ld : Obj → Led} {Q : Unit → Heap → Prop} (S : St G an γ L m led h) (u : ∀ o', UpdL d o o' led (ld o')) (hd : o.IsDictOf (Ikd G) kvs) (hz : kvs.length ≤ sizeLine)
    (q : ∀ o' h', o'.IsDictOf (Ikd G) (stored kvs k v) → St G an γ L m (ld o') h' → Q () h') : WP G A (setItem (.ref d) (.int k t) v) Q h := set_dicti S (u o).mem hd hz fun o' h' t S' => q o' h' t (S'.chgL (u o') S.nd)
theorem l_cell {sc : Scope} {x : Str} {c : Addr} {o : Obj} {v : Value} {v0 : Option Value} {ld : Obj → Led} {Q : Unit → Heap → Prop} (S : St G an γ L m led h) (E : EOk sc env L) (hc : env.cells.lookup x = some c) (u : ∀ o', UpdL c o o' led (ld o')) (hd : o.data = .cell v0)
    (k : ∀ o' h', o'.data = .cell (some v) → St G an γ L m (ld o') h' → Q () h') (hx : sc.names.lookup x = some .cell) : WP G A (storeName env x v) Q h := c_store S E hc (u o).mem hd (fun o' h' t S' => k o' h' t (S'.chgL (u o') S.nd)) hx
theorem e_Met {o : Expr} {name : Str} {apos pos : Pos} {args : List Expr} {Q : Value → Heap → Prop}
    (x : ∀ pl, WP G A (eval o env) (fun ov h1 => WP G A (getMethod ov name pl) (fun fx h2 => WP G A (callWith pos fx.1 fx.2 (backTo pos (starEach args env)) []) Q h2) h1) h)
    (he : ∃ pl, eval (.Call (.Attribute o name apos) args [] pos) env = (do
      let ov ← eval o env
      standAt apos.atName
      let (f, first) ← holding [ov] (getMethod ov name pl)
      callWith pos f first (backTo pos (starEach args env)) [])) : WP G A (eval (.Call (.Attribute o name apos) args [] pos) env) Q h := by
  obtain ⟨pl, he⟩ := he
  exact e_Meth (x pl) he
end
theorem c_len1 {G : Gl} {A : Around} {h : Heap} {Q : Value → Heap → Prop} {a : Addr} {vs : List Value} {n : Nat} (e : h.get? a = some (lo vs n)) (hz : vs.length ≤ 16000000) (q : ∀ t, Q (.int vs.length t) h) : WP G A (call (.builtin "len") [.ref a]) Q h := c_len e (by omega) q
/-- values that are natural numbers -/
inductive Nats : List Value → List Nat → Prop
  | nil : Nats [] []
  | cons {n : Nat} {t : Tok} {vs : List Value} {ns : List Nat} : Nats vs ns → Nats (.int (n : Nat) t :: vs) (n :: ns)
theorem Nats.len {vs : List Value} {ns : List Nat} (x : Nats vs ns) : vs.length = ns.length := by
  induction x with
  | nil => rfl
  | cons _ ih => simp [ih]
theorem Nats.get {vs : List Value} {ns : List Nat} (x : Nats vs ns) : ∀ {i : Nat} {v : Value}, vs[i]? = some v → ∃ n t, ns[i]? = some n ∧ v = .int (n : Nat) t := by
  induction x with
  | nil => intro i v e; simp at e
  | cons _ ih =>
    intro i v e
    cases i with
    | zero => simp at e; subst e; exact ⟨_, _, rfl, rfl⟩
    | succ i => exact ih (by simpa using e)
theorem Nats.got {vs : List Value} {ns : List Nat} (x : Nats vs ns) : ∀ {i : Nat} {n : Nat}, ns[i]? = some n → ∃ t, vs[i]? = some (.int (n : Nat) t) := by
  induction x with
  | nil => intro i v e; simp at e
  | cons _ ih =>
    intro i v e
    cases i with
    | zero => simp at e; subst e; exact ⟨_, rfl⟩
    | succ i => simpa using ih (by simpa using e)
theorem Nats.append {vs us : List Value} {ns ms : List Nat} (x : Nats vs ns) (y : Nats us ms) : Nats (vs ++ us) (ns ++ ms) := by
  induction x with
  | nil => exact y
  | cons _ ih => exact .cons ih
abbrev ci (ns : List Nat) : List Int := ns.map fun (n : Nat) => (n : Int)
theorem Nats.ints {vs : List Value} {ns : List Nat} (x : Nats vs ns) : IntsAre vs (ci ns) := by
  induction x with
  | nil => exact .nil
  | cons _ ih => exact .cons _ _ ih
theorem Nats.of_ints {vs : List Value} : ∀ {ns : List Nat}, IntsAre vs (ci ns) → Nats vs ns := by
  induction vs with
  | nil => intro ns e; cases ns with | nil => exact .nil | cons _ _ => cases e
  | cons v vs ih => intro ns e; cases ns with | nil => cases e | cons _ _ => cases e; rename_i z; exact .cons (ih z)
section
variable {G : Gl} {A : Around} {h : Heap} {env : Env} {an : An} {γ : Pm} {L : Addr} {m : Mp} {led : Led}
/-- a list or a tuple that is kept -/
def SeqO (γ : Pm) (a : Addr) (vs : List Value) : Prop := ∃ e, γ a = some (lo vs e) ∨ γ a = some (tu vs e)
theorem SeqO.sub {γ γ' : Pm} {a : Addr} {vs : List Value} (s : Sub γ γ') : SeqO γ a vs → SeqO γ' a vs | ⟨e, q⟩ => ⟨e, q.imp (s _ _) (s _ _)⟩
theorem it_seq {a : Addr} {vs : List Value} {Q : Value → Heap → Prop} (hh : A.handled = none) (S : St G an γ L m led h) (ha : SeqO γ a vs)
    (q : ∀ I oI Ok h', It G A γ I vs.length (fun i v => vs[i]? = some v) Ok → Ok 0 oI → St G an γ L m ((I, oI) :: led) h' → Q (.ref I) h') : WP G A (pyIter (.ref a)) Q h := by
  obtain ⟨e, ha | ha⟩ := ha
  · exact it_list S (S.get ha) fun I oI h' ok S' => q I oI _ h' (It.list hh ha) ok S'
  · exact it_tuple S (S.get ha) fun I oI h' ok S' => q I oI _ h' (It.tuple hh ha) ok S'
/-- a call that changes nothing that could be told -/
abbrev Same (γ : Pm) (h : Heap) (cs : Led) (γ' : Pm) (h' : Heap) : Prop := Post γ h (cs.map (·.1)) γ' h' ∧ ∀ p ∈ cs, h'.get? p.1 = some p.2
theorem St.same {γ' : Pm} {h' : Heap} {xs cs : Led} (S : St G an γ L m (xs ++ cs) h) (P : Same γ h cs γ' h') : St G an γ' L m (xs ++ cs) h' := S.after P.1 rfl P.2
end
local macro_rules | `(tactic| wtm_at "lk") => `(tactic| first | exact put_self | exact put_ne (sne (by decide)) (by wtm_at "lk") | assumption)
local macro_rules | `(tactic| wtm_at "m") => `(tactic| first
  | ((with_reducible refine x_nil ?_))
  | ((with_reducible refine x_Expr ?_ ?hi ?sw); (case hi => exact EOk.int (by assumption)); (case sw => rfl))
  | ((with_reducible refine x_SetAttr ?_ ?sw); (case sw => rfl))
  | ((with_reducible refine x_SetSub ?_ ?sw); (case sw => rfl))
  | ((with_reducible refine x_Assign ?_ ?sw); (case sw => rfl))
  | ((with_reducible refine x_If ?_))
  | ((with_reducible refine x_Ret ?_))
  | ((with_reducible refine t_Cmp ?_ ?sw); (case sw => rfl))
  | ((with_reducible refine e_BinOp ?_))
  | ((with_reducible refine e_Cmp ?_ ?sw); (case sw => rfl))
  | ((with_reducible refine e_int ?_); intro _)
  | ((with_reducible refine e_str ?_); intro _)
  | ((with_reducible refine e_Sub ?_))
  | ((with_reducible refine e_Met ?_ ?sw); (case sw => exact ⟨_, rfl⟩); intro _)
  | ((with_reducible refine e_Call ?_ ?sw); (case sw => rfl))
  | ((with_reducible refine e_Attr ?_ ?sw); (case sw => rfl))
  | ((with_reducible refine e_If ?_))
  | ((with_reducible refine t_not ?_))
  | ((with_reducible refine t_or ?_))
  | ((with_reducible refine t_or0 ?_))
  | ((with_reducible refine t_and ?_))
  | ((with_reducible refine t_and0 ?_))
  | ((with_reducible refine e_none ?_))
  | ((with_reducible refine e_bool ?_))
  | ((with_reducible refine e_List ?_))
  | ((with_reducible refine e_Tup ?_))
  | ((with_reducible refine s_nil ?_))
  | ((with_reducible refine s_cons ?_ ?sw); (case sw => rfl))
  | ((with_reducible refine o_add ?_); intro _)
  | ((with_reducible refine o_sub ?_); intro _)
  | ((with_reducible refine o_le ?_))
  | ((with_reducible refine o_lt ?_))
  | ((with_reducible refine o_gt ?_))
  | ((with_reducible refine o_eq ?_))
  | ((with_reducible refine o_ne ?_))
  | ((with_reducible refine truthy_bool ?_)))
local macro_rules | `(tactic| wtm_at "nl") => `(tactic| (with_reducible refine n_loc (by assumption) (by assumption) (by wtm_at "lk") ?_ (by kernel_rfl) (by kernel_rfl)))
local macro_rules | `(tactic| wtm_at "mem") => `(tactic| first | exact List.Mem.head _ | exact List.Mem.tail _ (by wtm_at "mem") | assumption)
local macro_rules | `(tactic| wtm_at "at") => `(tactic| first | exact St.get (by assumption) (by assumption) | exact St.led_get (by assumption) (by wtm_at "mem"))
local macro_rules | `(tactic| wtm_at "va") => `(tactic| first | exact va_head | exact va_tail (sne (by decide)) (by wtm_at "va"))
local macro_rules | `(tactic| wtm_at "ds") => `(tactic| ((with_reducible show WP _ _ (subscriptTail _ _ (Value.ref _) (Value.str _ _)) _ _); refine i_dicts (by wtm_at "at") (by assumption) (by wtm_at "va") ?_ sub_const))
local macro_rules | `(tactic| wtm_at "ga") => `(tactic| ((with_reducible show WP _ _ (getAttr (Value.ref _) _ _) _ _); refine a_get (by assumption) (by assumption) (by assumption) (by kernel_rfl) (by wtm_at "va") rfl ?_))
local macro_rules | `(tactic| wtm_at "u") => `(tactic| first | exact UpdL.head | exact UpdL.tail (by wtm_at "u"))
local macro_rules | `(tactic| wtm_at "go") => `(tactic| (first | wtm_at "m" | wtm_at "nl" | wtm_at "ga" | wtm_at "ds"))
local macro_rules | `(tactic| wtm_at "gos") => `(tactic| (repeat (wtm_at "go")))
section
variable {G : Gl} {A : Around} {h : Heap} {env : Env} {an : An} {γ : Pm} {L : Addr} {m : Mp} {led : Led}
/-! builtins over what is kept -/
theorem c_tuple {a : Addr} {vs : List Value} {e : Nat} {Q : Value → Heap → Prop} (S : St G an γ L m led h) (ha : h.get? a = some (lo vs e)) (hz : vs.length ≤ 16000000)
    (q : ∀ r γ' h', Sub γ γ' → γ' r = some (tu vs 0) → St G an γ' L m led h' → Q (.ref r) h') : WP G A (call (.type "tuple") [.ref a]) Q h := .mk fun tk =>
  call_tuple_list (hsz := by rw [List.size_toArray]; exact small hz) (s := sh G h tk) (lo_list ha) fun h' k => by
    have S1 := S.keep k
    exact Po.intro tk (q _ _ _ (Sub.ins S1.size_none) ins_self (S1.made (tu vs 0) rfl))
theorem o_eqs {x y : Str} {t u : Tok} {Q : Value → Heap → Prop} (q : Q (.bool (decide (x = y))) h) : WP G A (compareOp .Eq (.str x t) (.str y u)) Q h := .mk fun tk => eq_str (s := sh G h tk) (by rw [show (x == y) = decide (x = y) by by_cases e : x = y <;> simp [e]]; exact Po.intro tk q)
end
namespace Rv
theorem slot_rn : Slot "reversed" "__next__" "reversed.__next__" :=
  .of (owner := "reversed") (n := "__next__") (by rw [typeLookup_type, builtinLookup_eq_fast]; kernel_rfl) (by decide +kernel) (by decide +kernel) (by decide +kernel)
    (by first | exact .inl (by decide +kernel) | exact .inr (by decide +kernel)) (by rw [isSubtype_type]; kernel_rfl)
theorem slot_ri : Slot "reversed" "__iter__" "reversed.__iter__" :=
  .of (owner := "reversed") (n := "__iter__") (by rw [typeLookup_type, builtinLookup_eq_fast]; kernel_rfl) (by decide +kernel) (by decide +kernel) (by decide +kernel)
    (by first | exact .inl (by decide +kernel) | exact .inr (by decide +kernel)) (by rw [isSubtype_type]; kernel_rfl)
theorem slot_rh : Slot "reversed" "__length_hint__" "reversed.__length_hint__" :=
  .of (owner := "reversed") (n := "__length_hint__") (by rw [typeLookup_type, builtinLookup_eq_fast]; kernel_rfl) (by decide +kernel) (by decide +kernel) (by decide +kernel)
    (by first | exact .inl (by decide +kernel) | exact .inr (by decide +kernel)) (by rw [isSubtype_type]; kernel_rfl)
theorem slot_rinit : Slot "reversed" "__init__" "object.__init__" :=
  .of (owner := "object") (n := "__init__") (by rw [typeLookup_type, builtinLookup_eq_fast]; kernel_rfl) (by decide +kernel) (by decide +kernel) (by decide +kernel)
    (by first | exact .inl (by decide +kernel) | exact .inr (by decide +kernel)) (by rw [isSubtype_type]; kernel_rfl)
theorem slot_lh : Slot "list_reverseiterator" "__length_hint__" "list_reverseiterator.__length_hint__" :=
  .of (owner := "list_reverseiterator") (n := "__length_hint__") (by rw [typeLookup_type, builtinLookup_eq_fast]; kernel_rfl) (by decide +kernel) (by decide +kernel) (by decide +kernel)
    (by first | exact .inl (by decide +kernel) | exact .inr (by decide +kernel)) (by rw [isSubtype_type]; kernel_rfl)

theorem rev_no_len : typeLookup (.type "reversed") "__len__" = Pure.pure none := by rw [typeLookup_type, builtinLookup_eq_fast]; kernel_rfl
theorem lri_no_len : typeLookup (.type "list_reverseiterator") "__len__" = Pure.pure none := by rw [typeLookup_type, builtinLookup_eq_fast]; kernel_rfl
theorem tup_no_rev : typeLookup (.type "tuple") "__reversed__" = Pure.pure none := by rw [typeLookup_type, builtinLookup_eq_fast]; kernel_rfl
theorem entry_rn : entryFor table "reversed.__next__" = some Builtin.«reversed.__next__» := entryFor_of_tree (by kernel_rfl)
theorem entry_rh : entryFor table "reversed.__length_hint__" = some Builtin.«reversed.__length_hint__» := entryFor_of_tree (by kernel_rfl)
theorem args_rn (a : Value) : argsOk "reversed.__next__" ⟨[a], []⟩ := by unfold argsOk; kernel_rfl
theorem args_rh (a : Value) : argsOk "reversed.__length_hint__" ⟨[a], []⟩ := by unfold argsOk; kernel_rfl
theorem args_ri (a : Value) : argsOk "reversed.__iter__" ⟨[a], []⟩ := by unfold argsOk; kernel_rfl

theorem called_rev : TypeCalled "reversed" "reversed.__new__" "object.__init__" :=
  ⟨by decide +kernel, by decide +kernel, ⟨_, _, PySem.F.mro_reversed⟩, PySem.F.made_reversed, by decide +kernel, by rw [isSubtype_type]; kernel_rfl, slot_rinit⟩
theorem entry_ri : entryFor table "reversed.__iter__" = some Builtin.«dict_keyiterator.__iter__» :=
  entryFor_alias (id' := "dict_keyiterator.__iter__") (by kernel_rfl) (by first | rfl | decide +kernel | (unfold String.splitOn; simp +decide [String.splitOnAux])) (by decide +kernel) (by kernel_rfl)

end Rv
namespace Rv
def rvO (t : Addr) (i : Int) : Obj := { cls := .type "reversed", data := .fields #[.ref t, rawInt i] }
theorem sub_tuple_dict : isSubtype (.type "tuple") (.type "dict") = Pure.pure false := by rw [isSubtype_type]; kernel_rfl
section
variable {prog : Program} {w : World} {A : Around} {E : Value → Shared → Prop} {s : Shared}
theorem newClass_rev (a : Value) : Builtin.SmallTypes.newClass "reversed" ⟨[.type "reversed", a], []⟩ = Pure.pure (.type "reversed", [a]) := by
  unfold Builtin.SmallTypes.newClass
  simp only [isType, PySem.F.sub_reversed_self, pure_bind, Bool.not_true, Bool.false_eq_true, if_false]
theorem seqIndex?_nat {i n : Nat} (h : i < n) : seqIndex? (i : Int) n = some i := by unfold seqIndex?; simp; omega
theorem code_rev_new {l : Addr} {o : Obj} {items : Array Value} {n : Nat} {Q₁ : Value → Shared → Prop} (ho : s.heap.get? l = some o) (hc : o.cls = .type "tuple") (hd : o.data = .seq items n) (hz : items.size < 2 ^ 62)
    (h : ∀ t, Q₁ (.ref s.heap.objs.size) { s with heap := s.heap.push (rvO l ((items.size : Int) - 1)), toks := t }) :
    codeAny (model prog w) A (.call (.builtin "reversed.__new__") ⟨[.type "reversed", .ref l], []⟩) (wants Q₁ E) s := by
  have hT : s.TypeIs (.ref l) "tuple" := ⟨o, ho, hc⟩
  refine codeAny_of_tree ?_
  show wpAny _ A.in1 (do checkBuiltinCall "reversed.__new__" ⟨[.type "reversed", .ref l], []⟩; again (.builtin "reversed.__new__" ⟨[.type "reversed", .ref l], []⟩)) _ _ s
  refine wpAny_bind (wpAny_of_eq (PySem.F.newCall_reversed_1 _) (wpAny_pure ⟨plainId_quiet PySem.F.plain_reversed_new _, codeAny_builtin PySem.F.entry_reversed_new ?_⟩))
  rw [Around.under_plainId PySem.F.plain_reversed_new _]
  unfold Builtin.«reversed.__new__»
  refine wpAny_bind (wpAny_of_eq (newClass_rev _) ?_)
  try dsimp only
  refine wpAny_bind (wpAny_of_eq (a := ()) (by first | rfl | kernel_rfl) ?_)
  refine wpAny_bind (wpAny_of_eq (a := ()) (by first | rfl | kernel_rfl) ?_)
  try dsimp only
  refine wpAny_bind (wpAny_specialOf hT tup_no_rev ?_)
  try dsimp only
  refine wpAny_bind ?_
  show wpAny _ _ (isInstance (.ref l) (.type "dict") >>= _) _ _ _
  refine wpAny_bind (wpAny_isInstance hT sub_tuple_dict ?_)
  show wpAny _ _ (specialOf (.ref l) "__getitem__" >>= _) _ _ _
  refine wpAny_bind (wpAny_specialOf hT PySem.F.slot_tuple_getitem.lookup ?_)
  refine wpAny_of_eq (a := true) (by kernel_rfl) ?_
  simp only [Bool.not_true, Bool.false_eq_true, if_false]
  refine wpAny_bind (len_tuple ⟨_, ho, hc, _, hd⟩ (by omega) ?_)
  refine wpAny_bind (wpAny_of_eq (a := some (items.size : Int)) (by rfl) ?_)
  try dsimp only
  show wpAny _ _ (newObj (.type "reversed") (.fields #[Value.ref l, rawInt ((items.size : Int) - 1)]) >>= _) _ _ _
  refine wpAny_bind (wpAny_newObj_type ?_ (by size_fits))
  exact wpAny_pure (h _)
theorem call_rev {l : Addr} {o : Obj} {items : Array Value} {n : Nat} {Q : Value → Shared → Prop} (ho : s.heap.get? l = some o) (hc : o.cls = .type "tuple") (hd : o.data = .seq items n) (hz : items.size < 2 ^ 62)
    (h : ∀ t, Q (.ref s.heap.objs.size) { s with heap := s.heap.push (rvO l ((items.size : Int) - 1)), toks := t }) : wpAny (model prog w) A (call (.type "reversed") [.ref l]) Q E s := by
  refine callType_codes (Q₁ := fun obj s₁ => s₁.TypeIs obj "reversed" ∧ Q obj s₁) called_rev (PySem.F.typeCall_reversed_1 _) PySem.F.entry_object_init
    (code_rev_new ho hc hd hz fun t => ⟨⟨_, Heap.get?_push_size _ rfl, rfl⟩, h t⟩) fun obj s₁ h₁ => ?_
  exact ⟨h₁.1, PySem.F.args_object_init_2 obj _, object_init_meets called_rev.init.lookup called_rev.made (by decide) prog w A.in1 _ s₁ ⟨h₁.1, rfl, h₁.2⟩⟩
theorem next_item {it l : Addr} {o : Obj} {i : Nat} {items : Array Value} {x : Value} {n : Nat} {Q : Option Value → Shared → Prop} (hit : s.heap.get? it = some (rvO l (i : Int))) (ho : s.heap.get? l = some o) (hc : o.cls = .type "tuple") (hd : o.data = .seq items n) (hz : items.size < 2 ^ 62) (hx : items[i]? = some x)
    (hQ : ∀ h' t, h'.get? it = some (rvO l ((i : Int) - 1)) → Heap.SameBut it s.heap h' → Q (some x) { s with heap := h', toks := t }) : wpAny (model prog w) A (pyNext (.ref it)) Q E s := by
  have hT : s.TypeIs (.ref it) "reversed" := ⟨_, hit, rfl⟩
  have hl : s.heap.IsTuple l items := ⟨o, ho, hc, n, hd⟩
  have hT2 : s.TypeIs (.ref l) "tuple" := ⟨o, ho, hc⟩
  have hi : i < items.size := by
    by_cases z : i < items.size
    · exact z
    · rw [Array.getElem?_eq_none (by omega)] at hx; cases hx
  unfold pyNext
  refine wpAny_bind (wpAny_attempt (wpAny_callSpecial?_slot (name := Str.ofString "__next__") hT slot_rn (wpAny_call_entry slot_rn hT entry_rn ?_ (args_rn _))))
  unfold Builtin.«reversed.__next__»
  refine wpAny_bind (wpAny_of_eq (a := (Value.ref it, [])) rfl ?_)
  try dsimp only
  refine wpAny_bind (wpAny_field hit rfl (x := .ref l) rfl ?_)
  try dsimp only
  refine wpAny_bind (wpAny_field hit rfl (x := rawInt (i : Int)) rfl ?_)
  show wpAny _ _ (if (i : Int) < 0 then _ else _) _ _ s
  rw [if_neg (by omega)]
  refine wpAny_bind (wpAny_specialOf hT2 PySem.F.slot_tuple_getitem.lookup ?_)
  simp only [Option.isNone_some, Bool.false_eq_true, if_false]
  refine wpAny_bind (wpAny_mkInt ?_)
  refine wpAny_bind (wpAny_attempt (PyProof.Rows.getItem_tuple ⟨_, ho, hc, _, hd⟩ (by omega) (by omega) (seqIndex?_nat hi) hx ?_))
  try dsimp only
  refine wpAny_bind (wpAny_field hit rfl (x := rawInt (i : Int)) rfl ?_)
  try dsimp only
  refine wpAny_bind (wpAny_setField hit rfl (by simp) ?_)
  refine wpAny_pure ⟨x, rfl, wpAny_pure (hQ _ _ ?_ (Heap.SameBut.update ..))⟩
  rw [Heap.get?_update_self _ hit rfl]
  simp [rvO, Obj.mapFields]
theorem next_end {it l : Addr} {Q : Option Value → Shared → Prop} (hh : A.handled = none) (hit : s.heap.get? it = some (rvO l (-1)))
    (hQ : ∀ h', Heap.ExtBut it s.heap h' → Q none { s with heap := h' }) : wpAny (model prog w) A (pyNext (.ref it)) Q E s := by
  have hT : s.TypeIs (.ref it) "reversed" := ⟨_, hit, rfl⟩
  unfold pyNext
  refine wpAny_bind (wpAny_attempt (wpAny_callSpecial?_slot (name := Str.ofString "__next__") hT slot_rn (wpAny_call_entry slot_rn hT entry_rn ?_ (args_rn _))))
  unfold Builtin.«reversed.__next__»
  refine wpAny_bind (wpAny_of_eq (a := (Value.ref it, [])) rfl ?_)
  try dsimp only
  refine wpAny_bind (wpAny_field hit rfl (x := .ref l) rfl ?_)
  try dsimp only
  refine wpAny_bind (wpAny_field hit rfl (x := rawInt (-1)) rfl ?_)
  show wpAny _ _ (if (-1 : Int) < 0 then _ else _) _ _ s
  rw [if_pos (by decide)]
  refine wpAny_bind (wpAny_rule ?_)
  refine wpAny_bind ?_
  show wpAny _ _ (setField (.ref it) 1 (rawInt (-1)) >>= fun _ => setField (.ref it) 0 .none) _ _ _
  refine wpAny_bind (wpAny_setField hit rfl (by simp) ?_)
  have h2 : (s.heap.update it (Obj.mapFields fun x => x.setIfInBounds 1 (rawInt (-1)))).get? it = some (rvO l (-1)) := by
    rw [Heap.get?_update_self _ hit rfl]
    simp [rvO, Obj.mapFields]
  refine wpAny_setField h2 rfl (by simp) ?_
  refine wpAny_bind ?_
  show wpAny _ _ (newExc (.type "StopIteration") [] >>= _) _ _ _
  refine wpAny_bind ?_
  simp only [newExc, newTuple]
  refine wpAny_bind (wpAny_newObj_type ?_ (by size_fits))
  refine wpAny_bind (m := firstArgMember _ _) (wpAny_of_eq (a := Value.none) (by first | rfl | (simp only [firstArgMember]; rfl)) ?_)
  refine wpAny_newObj_type ?_ (by size_fits)
  simp only [raiseNew]
  refine wpAny_bind (wpAny_handled ?_)
  first | rw [show A.in1.handled = none from hh] | rw [hh]
  refine wpAny_bind (wpAny_pure (wpAny_throw ?_))
  refine wpAny_bind (wpAny_isInstance (T := "StopIteration") (b := true) ⟨_, Heap.get?_push_size _ rfl, rfl⟩ isSubtype_stop ?_)
  exact wpAny_pure (hQ _ ((((Heap.SameBut.update ..).trans (Heap.SameBut.update ..)).extBut.push _).push _))
theorem iter_self {it l : Addr} {i : Int} {Q : Value → Shared → Prop} (hit : s.heap.get? it = some (rvO l i)) (h : Q (.ref it) s) : wpAny (model prog w) A (pyIter (.ref it)) Q E s := by
  have hT : s.TypeIs (.ref it) "reversed" := ⟨_, hit, rfl⟩
  refine wpAny_pyIter_slot hT slot_ri (wpAny_call_entry slot_ri hT entry_ri ?_ (args_ri _))
  show wpAny _ _ (ret (.ref it)) _ _ s
  exact wpAny_pure ⟨_, rfl, "reversed", _, hT, slot_rn.lookup, h⟩
end
end Rv
section
variable {G : Gl} {A : Around} {h : Heap} {env : Env} {an : An} {γ : Pm} {L : Addr} {m : Mp} {led : Led}
def OkRT (a : Addr) (n i : Nat) (o : Obj) : Prop := o = Rv.rvO a ((n : Int) - 1 - (i : Nat)) ∧ i ≤ n
def OkRL (a : Addr) (n i : Nat) (o : Obj) : Prop := o.cls = .type "list_reverseiterator" ∧ o.data = .fields #[.ref a, rawInt ((n : Int) - 1 - (i : Nat))] ∧ i ≤ n
theorem rev_get {vs : List Value} {i : Nat} (h : i < vs.length) : vs.reverse[i]? = vs[vs.length - 1 - i]? := List.getElem?_reverse h
theorem It.revT {I a : Addr} {vs : List Value} {e : Nat} (hh : A.handled = none) (ha : γ a = some (tu vs e)) (hz : vs.length ≤ 16000000) : It G A γ I vs.length (fun i v => vs.reverse[i]? = some v) (OkRT a vs.length) where
  step := fun {an γ' L m led h i oI} s S ok hi => .mk fun tk => by
    obtain ⟨rfl, hle⟩ := ok
    obtain ⟨v, hv⟩ : ∃ v, vs.reverse[i]? = some v := ⟨vs.reverse[i]'(by simpa using hi), by simp [hi]⟩
    have hv' := hv
    rw [rev_get hi] at hv'
    have e1 : (vs.length : Int) - 1 - (i : Nat) = ((vs.length - 1 - i : Nat) : Int) := by omega
    have hI := S.led_get (.head _)
    rw [e1] at hI
    refine Rv.next_item (s := sh G h tk) (items := vs.toArray) hI (S.get (s _ _ ha)) rfl rfl (by rw [List.size_toArray]; omega) (by simpa using hv') fun h' t e' hs => ?_
    refine Po.intro t ⟨v, _, rfl, hv, ⟨rfl, hi⟩, S.turn hs.extBut ?_⟩
    rw [e']
    have e2 : ((vs.length - 1 - i : Nat) : Int) - 1 = (vs.length : Int) - 1 - ((i + 1 : Nat) : Int) := by omega
    rw [e2]
  done := fun {an γ' L m led h oI} s S ok => .mk fun tk => by
    obtain ⟨rfl, hle⟩ := ok
    have hI := S.led_get (.head _)
    have e1 : (vs.length : Int) - 1 - (vs.length : Nat) = -1 := by omega
    rw [e1] at hI
    exact Rv.next_end (s := sh G h tk) hh hI fun h' hx => Po.intro tk ⟨rfl, S.lose hx⟩
  self := fun {an γ' L m led h i oI} s S ok => .mk fun tk => by
    obtain ⟨rfl, hle⟩ := ok
    exact Rv.iter_self (s := sh G h tk) (S.led_get (.head _)) (Po.intro tk ⟨rfl, rfl⟩)
theorem It.revL {I a : Addr} {vs : List Value} {e : Nat} (hh : A.handled = none) (ha : γ a = some (lo vs e)) : It G A γ I vs.length (fun i v => vs.reverse[i]? = some v) (OkRL a vs.length) where
  step := fun {an γ' L m led h i oI} s S ok hi => .mk fun tk => by
    obtain ⟨k1, k2, hle⟩ := ok
    obtain ⟨v, hv⟩ : ∃ v, vs.reverse[i]? = some v := ⟨vs.reverse[i]'(by simpa using hi), by simp [hi]⟩
    have hv' := hv
    rw [rev_get hi] at hv'
    have e1 : (vs.length : Int) - 1 - (i : Nat) = ((vs.length - 1 - i : Nat) : Int) := by omega
    have hI := S.led_get (.head _)
    rw [e1] at k2
    refine wpAny_pyNext_rev_item (s := sh G h tk) ⟨_, hI, k1, k2⟩ (lo_list (S.get (s _ _ ha))) (by simpa using hv') fun h' hit hs => ?_
    obtain ⟨o', e', c1, c2⟩ := hit
    refine Po.intro tk ⟨v, o', rfl, hv, ⟨c1, ?_, hi⟩, S.turn hs.extBut e'⟩
    have e2 : ((vs.length - 1 - i : Nat) : Int) - 1 = (vs.length : Int) - 1 - ((i + 1 : Nat) : Int) := by omega
    rw [c2, e2]
  done := fun {an γ' L m led h oI} s S ok => .mk fun tk => by
    obtain ⟨k1, k2, hle⟩ := ok
    have e1 : (vs.length : Int) - 1 - (vs.length : Nat) = -1 := by omega
    rw [e1] at k2
    exact wpAny_pyNext_rev_end (s := sh G h tk) hh ⟨_, S.led_get (.head _), k1, k2⟩ fun h' hx => Po.intro tk ⟨rfl, S.lose hx⟩
  self := fun {an γ' L m led h i oI} s S ok => .mk fun tk => by
    obtain ⟨k1, k2, hle⟩ := ok
    exact wpAny_pyIter_revIter (s := sh G h tk) ⟨_, S.led_get (.head _), k1, k2⟩ (Po.intro tk ⟨rfl, rfl⟩)
theorem c_revT {a : Addr} {vs : List Value} {e : Nat} {Q : Value → Heap → Prop} (S : St G an γ L m led h) (ha : h.get? a = some (tu vs e)) (hz : vs.length ≤ 16000000)
    (q : ∀ I oI h', OkRT a vs.length 0 oI → St G an γ L m ((I, oI) :: led) h' → Q (.ref I) h') : WP G A (call (.type "reversed") [.ref a]) Q h := .mk fun tk =>
  Rv.call_rev (s := sh G h tk) (items := vs.toArray) ha rfl rfl (by rw [List.size_toArray]; omega) fun t => Po.intro t (q _ _ _ ⟨by rw [List.size_toArray]; simp, Nat.zero_le _⟩ (S.push_led _ rfl))
theorem c_revL {a : Addr} {vs : List Value} {e : Nat} {Q : Value → Heap → Prop} (S : St G an γ L m led h) (ha : h.get? a = some (lo vs e))
    (q : ∀ I oI h', OkRL a vs.length 0 oI → St G an γ L m ((I, oI) :: led) h' → Q (.ref I) h') : WP G A (call (.type "reversed") [.ref a]) Q h := .mk fun tk =>
  call_reversed_list (s := sh G h tk) (lo_list ha) (Po.intro tk (q _ _ _ ⟨rfl, by rw [List.size_toArray]; simp [revObj], Nat.zero_le _⟩ (S.push_led _ rfl)))
/-- drawing the rest of an iterator into a list -/
theorem ext_loop {I D : Addr} {n : Nat} {vs : List Value} {Ok : Nat → Obj → Prop} {res : Value} {R : Result → Shared → Prop} (T : It G A.in1 γ I n (fun i v => vs[i]? = some v) Ok) (hv : vs.length = n) (hz : n ≤ 1000000) :
    ∀ (j i : Nat) (led : Led) (h : Heap) (tk : Nat) (oI : Obj) (acc : List Value) (k : Nat), n - i = j → i ≤ n → Ok i oI → St G an γ L m ((I, oI) :: (D, lo acc k) :: led) h →
    (∀ h' t k', St G an γ L m ((D, lo (acc ++ vs.drop i) k') :: led) h' → R (.ok (.ret res)) (sh G h' t)) → acc.length + (n - i) ≤ 15000000 →
    codeAny (MD G) A (.builtin "list.extend.loop" ⟨[.ref D, .ref I, res], []⟩) R (sh G h tk) := by
  intro j
  induction j with
  | zero =>
    intro i led h tk oI acc k hj hi ok S hR _
    have hin : i = n := by omega
    subst hin
    refine codeAny_builtin PySem.F.entry_extend_loop ?_
    rw [Around.under_plainId PySem.F.plain_extend_loop _]
    show wpAny _ A.in1 (pyNext (.ref I) >>= _) _ _ _
    refine wpAny_bind (wpAny_mono ((T.done (Sub.refl _) S ok).run tk) (fun r s1 ⟨h1, t1, e, er, S1⟩ => ?_) fun _ _ e => e.elim)
    subst e er
    refine wpAny_pure (hR h1 t1 k ?_)
    rw [← hv, List.drop_length, List.append_nil]; exact S1
  | succ j ih =>
    intro i led h tk oI acc k hj hi ok S hR hz2
    refine codeAny_builtin PySem.F.entry_extend_loop ?_
    rw [Around.under_plainId PySem.F.plain_extend_loop _]
    show wpAny _ A.in1 (pyNext (.ref I) >>= _) _ _ _
    refine wpAny_bind (wpAny_mono ((T.step (Sub.refl _) S ok (by omega)).run tk) (fun r s1 ⟨h1, t1, e, v, oI2, er, hP, ok2, S1⟩ => ?_) fun _ _ e => e.elim)
    subst e er
    show wpAny _ A.in1 (updateSeq D (·.push v) >>= _) _ _ _
    refine wpAny_bind ?_
    have hD := S1.led_get (.tail _ (.head _))
    have S2 := ((S1.perm (List.Perm.swap _ _ _)).turn (o' := lo (acc ++ [v]) (k + 1)) (Heap.SameBut.update h1 D (Obj.mapSeq (·.push v))).extBut (by rw [Heap.get?_update_self _ hD rfl]; simp [lo, Obj.mapSeq])).perm (List.Perm.swap _ _ _)
    refine wpAny_updateSeq (s := sh G h1 t1) hD rfl (wpAny_pure ⟨plainId_quiet PySem.F.plain_extend_loop _, ?_⟩) (by rw [List.size_toArray]; exact small (by omega)) (by rw [Array.size_push, List.size_toArray, sizeLine_eq]; omega)
    refine ih (i + 1) led _ t1 oI2 (acc ++ [v]) (k + 1) (by omega) (by omega) ok2 S2 (fun h' t k' S' => hR h' t k' ?_) (by simp; omega)
    have hlt : i < vs.length := by omega
    have : vs.drop i = v :: vs.drop (i + 1) := by
      rw [List.drop_eq_getElem_cons hlt]
      congr 1
      rw [List.getElem?_eq_getElem hlt] at hP; exact Option.some.inj hP
    rw [this]
    simpa using S'
/-- a type of iterators that list() and extend() walk -/
structure Hin (G : Gl) (γ : Pm) (I : Addr) (T : String) (Ok : Nat → Obj → Prop) : Prop where
  ty : ∀ i o, Ok i o → o.cls = .type T
  nl : (Value.type T == Value.type "list") = false
  nt : (Value.type T == Value.type "tuple") = false
  hint : ∀ {A : Around} {an : An} {γ' : Pm} {L : Addr} {m : Mp} {led : Led} {h : Heap} {i : Nat} {oI : Obj}, Sub γ γ' → St G an γ' L m ((I, oI) :: led) h → Ok i oI → WP G A (Builtin.List.listLengthHint (.ref I)) (fun _ h' => h' = h) h
theorem ext_with {I D : Addr} {n k : Nat} {T' : String} {vs acc : List Value} {Ok : Nat → Obj → Prop} {res : Value} {R : Result → Shared → Prop} {oI : Obj} {tk : Nat} (T : It G A.in1 γ I n (fun i v => vs[i]? = some v) Ok) (W : Hin G γ I T' Ok) (hv : vs.length = n) (hz : n ≤ 1000000) (hz2 : acc.length ≤ 10000000)
    (ok : Ok 0 oI) (S : St G an γ L m ((I, oI) :: (D, lo acc k) :: led) h) (hne : D ≠ I)
    (hR : ∀ h' t k', St G an γ L m ((D, lo (acc ++ vs) k') :: led) h' → R (.ok (.ret res)) (sh G h' t)) :
    wpAny (MD G) A.in1 (Builtin.List.listExtendWith (.ref D) (.ref I) res)
      (fun fin s' => match fin with | .done f => R (.ok f) s' | .again c' => c'.quiet = true ∧ codeAny (MD G) A c' R s') (fun e s' => R (.error e) s') (sh G h tk) := by
  have hI := S.led_get (.head _)
  unfold Builtin.List.listExtendWith
  refine wpAny_bind (wpAny_typeOf (s := sh G h tk) ⟨oI, hI, W.ty _ _ ok⟩ ?_)
  have h1 : Builtin.List.listSameRef (.ref D) (.ref I) = false := by simp [Builtin.List.listSameRef, hne]
  simp only [h1, W.nl, W.nt, Bool.or_false, Bool.false_eq_true, if_false]
  refine wpAny_bind (wpAny_mono ((T.self (Sub.refl _) S ok).run tk) (fun r s1 ⟨h1, t1, e, er, eh⟩ => ?_) fun _ _ e => e.elim)
  subst e er eh
  refine wpAny_bind (wpAny_holding (wpAny_mono ((W.hint (Sub.refl _) S ok).run t1) (fun b s1 ⟨h1, t1, e, eh⟩ => ?_) fun _ _ e => e.elim))
  subst e eh
  have go : ∀ (k : Nat) (h : Heap) (t : Nat), St G an γ L m ((I, oI) :: (D, lo acc k) :: led) h → codeAny (MD G) A (.builtin "list.extend.loop" ⟨[.ref D, .ref I, res], []⟩) R (sh G h t) := fun k h t S =>
    ext_loop T hv hz n 0 led h t oI acc k rfl (Nat.zero_le _) ok S (fun h' t k' S' => hR h' t k' (by simpa using S')) (by omega)
  split
  · refine wpAny_bind (wpAny_rule (wpAny_bind ?_))
    show wpAny _ A.in1 (updateSeq D (·.push .none) >>= fun _ => updateSeq D (·.pop)) _ _ _
    have hD := S.led_get (.tail _ (.head _))
    have hD2 : (h1.update D (Obj.mapSeq (·.push .none))).get? D = some (lo (acc ++ [.none]) (k + 1)) := by rw [Heap.get?_update_self _ hD rfl]; simp [lo, Obj.mapSeq]
    have S2 := (S.perm (List.Perm.swap _ _ _)).turn (Heap.SameBut.update h1 D (Obj.mapSeq (·.push .none))).extBut hD2
    have S3 := (S2.turn (o' := lo acc (k + 1 + 1)) (Heap.SameBut.update _ D (Obj.mapSeq (·.pop))).extBut (by rw [Heap.get?_update_self _ hD2 rfl]; simp [lo, Obj.mapSeq])).perm (List.Perm.swap _ _ _)
    refine wpAny_bind (wpAny_updateSeq (s := sh G h1 t1) hD rfl ?_ (by rw [List.size_toArray]; exact small (by omega)) (by rw [Array.size_push, List.size_toArray, sizeLine_eq]; omega))
    refine wpAny_updateSeq (s := sh G _ t1) hD2 rfl ?_ (by rw [List.size_toArray]; exact small (by simp; omega)) (by simp; rw [sizeLine_eq]; omega)
    exact wpAny_pure ⟨plainId_quiet PySem.F.plain_extend_loop _, go _ _ t1 S3⟩
  · exact wpAny_pure ⟨plainId_quiet PySem.F.plain_extend_loop _, go _ _ t1 S⟩
theorem Rv.slot_lh_sub : isSubtype (.type "list_reverseiterator") (.type "list_reverseiterator") = Pure.pure true := by rw [isSubtype_type]; kernel_rfl
theorem hin_L {I a : Addr} {n : Nat} : Hin G γ I "list_reverseiterator" (OkRL a n) where
  ty := fun i o ok => ok.1
  nl := by decide
  nt := by decide
  hint := fun {A an γ' L m led h i oI} s S ok => .mk fun tk => by
    have hT : (sh G h tk).TypeIs (.ref I) "list_reverseiterator" := ⟨oI, S.led_get (.head _), ok.1⟩
    unfold Builtin.List.listLengthHint
    refine wpAny_bind (wpAny_specialOf hT Rv.lri_no_len ?_)
    show wpAny _ _ (specialOf (.ref I) "__length_hint__" >>= _) _ _ _
    refine wpAny_bind (wpAny_specialOf hT Rv.slot_lh.lookup ?_)
    have e : splitId "list_reverseiterator.__length_hint__" = some ("list_reverseiterator", "__length_hint__") := by decide +kernel
    simp only [e]
    refine wpAny_bind (wpAny_isInstance hT Rv.slot_lh_sub ?_)
    simp only [Bool.not_true, Bool.false_eq_true, if_false]
    split
    · rw [if_neg (by decide +kernel)]
      exact wpAny_pure (Po.intro tk rfl)
    · rename_i hn; exact absurd (by kernel_rfl) hn
theorem hin_T {I a : Addr} {e : Nat} {vs : List Value} (ha : γ a = some (tu vs e)) (hz : vs.length ≤ 16000000) : Hin G γ I "reversed" (OkRT a vs.length) where
  ty := fun i o ok => by rw [ok.1]; rfl
  nl := by decide
  nt := by decide
  hint := fun {A an γ' L m led h i oI} s S ok => .mk fun tk => by
    have hT : (sh G h tk).TypeIs (.ref I) "reversed" := ⟨oI, S.led_get (.head _), by rw [ok.1]; rfl⟩
    unfold Builtin.List.listLengthHint
    refine wpAny_bind (wpAny_specialOf hT Rv.rev_no_len ?_)
    show wpAny _ _ (specialOf (.ref I) "__length_hint__" >>= _) _ _ _
    refine wpAny_bind (wpAny_specialOf hT Rv.slot_rh.lookup ?_)
    have e : splitId "reversed.__length_hint__" = some ("reversed", "__length_hint__") := by decide +kernel
    simp only [e]
    refine wpAny_bind (wpAny_isInstance hT PySem.F.sub_reversed_self ?_)
    simp only [Bool.not_true, Bool.false_eq_true, if_false]
    split
    · rename_i hn; exact absurd hn (by decide +kernel)
    · refine wpAny_bind (wpAny_rule ?_)
      rw [Rv.slot_rh.bind]
      refine wpAny_bind (wpAny_pure ?_)
      dsimp only
      refine wpAny_bind (wpAny_attempt (wpAny_call_entry Rv.slot_rh hT Rv.entry_rh ?_ (Rv.args_rh _)))
      unfold Builtin.«reversed.__length_hint__»
      obtain ⟨rfl, hle⟩ := ok
      have hI := S.led_get (.head _)
      refine wpAny_bind (wpAny_of_eq (a := Value.ref I) rfl ?_)
      refine wpAny_bind (wpAny_field (s := sh G h tk) hI rfl (x := .ref a) rfl ?_)
      rw [if_neg (show ¬ ((Value.ref a == Value.none) = true) from Bool.false_ne_true)]
      refine wpAny_bind (len_tuple (s := sh G h tk) (items := vs.toArray) ⟨_, S.get (s _ _ ha), rfl, _, rfl⟩ (by rw [List.size_toArray]; omega) ?_)
      rw [List.size_toArray]
      refine wpAny_bind (wpAny_of_eq (a := some (vs.length : Int)) rfl ?_)
      dsimp only
      refine wpAny_bind (wpAny_field hI rfl (x := rawInt ((vs.length : Int) - 1 - (i : Nat))) rfl ?_)
      show wpAny _ _ (if (vs.length : Int) < (vs.length : Int) - 1 - (i : Nat) + 1 then _ else _) _ _ _
      rw [if_neg (by omega)]
      refine wpAny_ret_mkInt ?_
      dsimp only
      refine wpAny_bind (wpAny_of_eq (a := some ((vs.length : Int) - 1 - (i : Nat) + 1)) rfl ?_)
      dsimp only
      have f1 : (!Builtin.List.listFitsIndex ((vs.length : Int) - 1 - (i : Nat) + 1)) = false := by unfold Builtin.List.listFitsIndex; simp; omega
      have f2 : Builtin.List.listTooLong ((vs.length : Int) - 1 - (i : Nat) + 1).toNat = false := by unfold Builtin.List.listTooLong; rw [sizeLine_eq]; simp; omega
      rw [f1, f2]
      simp only [Bool.false_eq_true, if_false]
      rw [if_neg (by omega)]
      exact wpAny_pure (Po.intro _ rfl)
end
section
variable {G : Gl} {A : Around} {h : Heap} {env : Env} {an : An} {γ : Pm} {L : Addr} {m : Mp} {led : Led}
theorem lm_extend {a : Addr} {vs : List Value} {n : Nat} {pl : Sem Bool} {Q : Value × List Value → Heap → Prop} (e : h.get? a = some (lo vs n)) (q : Q (.builtin "list.extend", [.ref a]) h) : WP G A (getMethod (.ref a) "extend" pl) Q h := .mk fun tk =>
  getMethod_builtin (s := sh G h tk) ⟨_, e, rfl⟩ PySem.F.plainAttrs_list PySem.F.slot_list_extend PySem.F.type_list_extend (fun _ ha => by cases ha; exact ⟨_, e, rfl⟩) (Po.intro tk q)
theorem lm_pop {a : Addr} {vs : List Value} {n : Nat} {pl : Sem Bool} {Q : Value × List Value → Heap → Prop} (e : h.get? a = some (lo vs n)) (q : Q (.builtin "list.pop", [.ref a]) h) : WP G A (getMethod (.ref a) "pop" pl) Q h := .mk fun tk =>
  getMethod_builtin (s := sh G h tk) ⟨_, e, rfl⟩ PySem.F.plainAttrs_list PySem.F.slot_list_pop PySem.F.type_list_pop (fun _ ha => by cases ha; exact ⟨_, e, rfl⟩) (Po.intro tk q)
theorem l_pop {a : Addr} {vs : List Value} {x : Value} {n : Nat} {led' : Nat → Led} {Q : Value → Heap → Prop} (S : St G an γ L m led h) (u : ∀ k, UpdL a (lo (vs ++ [x]) n) (lo vs k) led (led' k)) (hz : vs.length ≤ 15000000)
    (q : ∀ k h', St G an γ L m (led' k) h' → Q x h') : WP G A (call (.builtin "list.pop") [.ref a]) Q h := .mk fun tk => by
  have hD := S.led_get (u 0).mem
  refine call_meets (s := sh G h tk) PySem.F.slot_list_pop ⟨_, hD, rfl⟩ PySem.F.entry_list_pop (PySem.F.args_list_pop_1 _) (PySem.MeetsSeq.list_pop_last a (vs ++ [x]).toArray n x (by simp) (by simp; exact small (by omega))) ⟨hD, ?_⟩
  have hs : Obj.mapSeq (fun xs => xs.eraseIdxIfInBounds ((vs ++ [x]).toArray.size - 1)) (lo (vs ++ [x]) n) = lo vs (n + 1) := by
    simp [lo, Obj.mapSeq, List.eraseIdx_append_of_length_le]
  exact Po.intro tk (q (n + 1) _ ((S.upd (u 0).mem (Heap.SameBut.update ..) (by rw [Heap.get?_update_self _ hD (by rw [hs]; rfl), hs])).chgL (u (n + 1)) S.nd))
theorem l_ext {I D : Addr} {k : Nat} {T' : String} {vs acc : List Value} {Ok : Nat → Obj → Prop} {oI : Obj} {Q : Value → Heap → Prop} (hh : A.handled = none) (T : ∀ A, A.handled = none → It G A γ I vs.length (fun i v => vs[i]? = some v) Ok) (W : Hin G γ I T' Ok) (hz : vs.length ≤ 1000000) (hz2 : acc.length ≤ 10000000)
    (ok : Ok 0 oI) (S : St G an γ L m ((I, oI) :: (D, lo acc k) :: led) h)
    (q : ∀ h' k', St G an γ L m ((D, lo (acc ++ vs) k') :: led) h' → Q .none h') : WP G A (call (.builtin "list.extend") [.ref D, .ref I]) Q h := .mk fun tk => by
  have hD := S.led_get (.tail _ (.head _))
  have hne : D ≠ I := fun e => by
    have := (List.nodup_cons.mp (List.nodup_cons.mp S.nd).2).1
    exact this (by rw [e]; simp)
  refine wpAny_call (codeAny_call_builtin PySem.F.slot_list_extend.plain PySem.F.entry_list_extend (PySem.F.slot_list_extend.check _ _ _ _ _ _ _ _ ⟨_, hD, rfl⟩ (PySem.F.args_list_extend_2 _ _) ?_))
  show wpAny _ A.in1 (Builtin.List.listExtendWith (.ref D) (.ref I) .none) _ _ _
  exact ext_with (A := A) (R := wants (Po G Q) No) (T A.in1 hh) W rfl hz hz2 ok S hne fun h' t k' S' => (show Po G Q .none (sh G h' t) from Po.intro t (q h' k' S'))
theorem c_list {I : Addr} {T' : String} {vs : List Value} {Ok : Nat → Obj → Prop} {oI : Obj} {Q : Value → Heap → Prop} (hh : A.handled = none) (T : ∀ A, A.handled = none → It G A γ I vs.length (fun i v => vs[i]? = some v) Ok) (W : Hin G γ I T' Ok) (hz : vs.length ≤ 1000000)
    (ok : Ok 0 oI) (S : St G an γ L m ((I, oI) :: led) h)
    (q : ∀ D h' k', St G an γ L m ((D, lo vs k') :: led) h' → Q (.ref D) h') : WP G A (call (.type "list") [.ref I]) Q h := .mk fun tk => by
  have hne : h.objs.size ≠ I := fun e => absurd (get_lt (S.led_get (.head _))) (by rw [← e]; exact Nat.lt_irrefl _)
  refine callType_codes (Q₁ := fun obj s₁ => obj = .ref h.objs.size ∧ s₁ = sh G (h.push (lo [] 0)) tk) PySem.F.called_list (PySem.F.typeCall_list_1 _) PySem.F.entry_list_init
    (code_list_new _ ⟨rfl, rfl⟩) fun obj s₁ h₁ => ?_
  obtain ⟨rfl, rfl⟩ := h₁
  have S1 := S.push_led (lo [] 0) rfl
  have hD := S1.led_get (.head _)
  refine ⟨⟨_, hD, rfl⟩, PySem.F.args_list_init_2 _ _, ?_⟩
  show wpAny _ A.in1.in1 (do let old ← Builtin.List.listItems (.ref h.objs.size); Builtin.List.listUpdate (.ref h.objs.size) (fun _ => #[]); letGo old.toList.reverse; Builtin.List.listExtendWith (.ref h.objs.size) (.ref I) .none) _ _ _
  refine wpAny_bind ?_
  unfold Builtin.List.listItems
  refine wpAny_bind (wpAny_seqItems hD rfl (wpAny_pure ?_))
  show wpAny _ A.in1.in1 (updateSeq h.objs.size (fun _ => #[]) >>= fun _ => letGo (#[] : Array Value).toList.reverse >>= fun _ => Builtin.List.listExtendWith (.ref h.objs.size) (.ref I) .none) _ _ _
  have S2 := (S1.turn (o' := lo [] 0) (Heap.SameBut.update _ h.objs.size (Obj.mapSeq (fun _ => (#[] : Array Value)))).extBut (by rw [Heap.get?_update_self _ hD rfl]; simp [lo, Obj.mapSeq])).perm (List.Perm.swap _ _ _)
  refine wpAny_bind (wpAny_updateSeq (s := sh G (h.push (lo [] 0)) tk) hD rfl ?_)
  refine wpAny_bind (wpAny_letGo ?_)
  refine ext_with (A := A.in1) (tk := tk) (res := .none) (T A.in1.in1 hh) W rfl hz (Nat.zero_le _) ok S2 hne fun h' t k' S' => ⟨rfl, Po.intro t (q _ h' k' (by simpa using S'))⟩
end
section
variable {G : Gl} {A : Around} {h : Heap} {env : Env} {an : An} {γ : Pm} {L : Addr} {m : Mp} {led : Led}
/-! several names at once -/
theorem swapped_of {sc : Scope} (E : EOk sc env L) {ts : List Expr} {v : Expr} {r : Option (List Str)} (h : ∀ e : Env, swappedStores ts v { e with scope := sc } = Pure.pure r) : swappedStores ts v env = Pure.pure r := by
  have := h env
  rw [← E.sco] at this
  exact this
theorem swaps_of {sc : Scope} (E : EOk sc env L) {v : Expr} {t : Option Expr} {l : Nat} {r : Bool} (h : ∀ e : Env, swapsWith v t l { e with scope := sc } = Pure.pure r) : swapsWith v t l env = Pure.pure r := by
  have := h env
  rw [← E.sco] at this
  exact this
theorem x_Swap {elts : List Expr} {k : Nat} {tpos : Pos} {value : Expr} {pos : Pos} {names : List Str} {Q : Flow → Heap → Prop}
    (hw : swappedStores [.Tuple elts k tpos] value env = Pure.pure (some names)) (hs : swapsWithSole [.Tuple elts k tpos] value pos.line env = Pure.pure false)
    (x : WP G A (eval value env) (fun v h1 => WP G A (unpackItems v names.length none) (fun items h2 => WP G A (assignInOrder (names.reverse.map fun n => bindName env n) items.reverse) (fun _ => Q .next) h2) h1) h) :
    WP G A (exec (.Assign [.Tuple elts k tpos] value pos) env) Q h := .mk fun _ =>
  Assign_Tuple_swapped (x.thn fun _ _ _ q => q.thn fun _ _ _ q => q.thn fun _ _ _ q => Po.intro _ q) hs hw
theorem x_Tup {elts : List Expr} {k : Nat} {tpos : Pos} {value : Expr} {pos : Pos} {Q : Flow → Heap → Prop}
    (hw : swappedStores [.Tuple elts k tpos] value env = Pure.pure none) (hs : swapsWithSole [.Tuple elts k tpos] value pos.line env = Pure.pure false)
    (x : WP G A (eval value env) (fun v h1 => WP G A (assign (.Tuple elts k tpos) env v) (fun _ => Q .next) h1) h) :
    WP G A (exec (.Assign [.Tuple elts k tpos] value pos) env) Q h := .mk fun _ =>
  PyProof.Rows.Assign_Tuple (x.thn fun _ _ _ q => q.thn fun _ _ _ q => Po.intro _ q) hs hw
theorem u_tup {t : Addr} {vs : List Value} {n : Nat} {e : Nat} {Q : List Value → Heap → Prop} (hh : A.handled = none) (S : St G an γ L m led h) (ht : h.get? t = some (tu vs e)) (hn : vs.length = n)
    (q : ∀ h', St G an γ L m led h' → Q vs h') : WP G A (unpackItems (.ref t) n none) Q h := .mk fun tk => by
  subst hn
  have := wpAny_unpackItems_tuple (prog := pw) (w := G.w) (A := A) (E := No) (s := sh G h tk) (t := t) (items := vs.toArray) (Q := Po G Q) hh ⟨_, ht, rfl, _, rfl⟩ fun h' hx => Po.intro tk (q h' (S.keep fun a o ea => hx a o (Nat.ne_of_lt (get_lt ea)) ea))
  simpa using this
theorem as_tup {elts : List Expr} {x1 : Nat} {pos : Pos} {t : Addr} {vs : List Value} {e : Nat} {Q : Unit → Heap → Prop} (hh : A.handled = none) (S : St G an γ L m led h) (ht : h.get? t = some (tu vs e)) (hn : (assignEach elts env).length = vs.length) (hstar : (assignEach elts env).findIdx? (·.1) = none)
    (q : ∀ h', St G an γ L m led h' → WP G A (assignInOrder ((assignEach elts env).map (·.2)) vs) Q h') : WP G A (assign (.Tuple elts x1 pos) env (.ref t)) Q h := .mk fun tk =>
  wpAny_assign_Tuple (s := sh G h tk) (items := vs.toArray) hh ⟨_, ht, rfl, _, rfl⟩ (by rw [List.size_toArray]; exact hn) hstar fun h' hx => by
    exact (q h' (S.keep fun a o ea => hx a o (Nat.ne_of_lt (get_lt ea)) ea)).run tk
theorem io_nil {Q : Unit → Heap → Prop} (q : Q () h) {l : List Value} : WP G A (assignInOrder [] l) Q h := .mk fun tk => wpAny_pure (Po.intro tk q)
theorem io_cons {t : Value → Sem Unit} {ts : List (Value → Sem Unit)} {x : Value} {xs : List Value} {Q : Unit → Heap → Prop} (q : WP G A (t x) (fun _ h1 => WP G A (assignInOrder ts xs) Q h1) h) : WP G A (assignInOrder (t :: ts) (x :: xs)) Q h := .mk fun _ => by
  show wpAny _ _ (do holding xs (t x); assignInOrder ts xs) _ _ _
  exact wpAny_bind (wpAny_holding (q.thn fun _ _ t q => q.run t))
theorem bn {x : Str} {v : Value} {Q : Unit → Heap → Prop} (q : WP G A (storeName env x v) Q h) : WP G A (bindName env x v) Q h := .mk fun tk => wpAny_bindName (q.run tk)
theorem as_name {x : Str} {pos : Pos} {v : Value} {Q : Unit → Heap → Prop} (q : WP G A (storeName env x v) Q h) : WP G A (assign (.Name x pos) env v) Q h := .mk fun tk => wpAny_assign_Name (q.run tk)
theorem c_revS {a : Addr} {vs : List Value} {Q : Value → Heap → Prop} (S : St G an γ L m led h) (ha : SeqO γ a vs) (hz : vs.length ≤ 16000000)
    (q : ∀ I oI Ok T' h', (∀ A, A.handled = none → It G A γ I vs.reverse.length (fun i v => vs.reverse[i]? = some v) Ok) → Hin G γ I T' Ok → Ok 0 oI → St G an γ L m ((I, oI) :: led) h' → Q (.ref I) h') : WP G A (call (.type "reversed") [.ref a]) Q h := by
  obtain ⟨e, ha | ha⟩ := ha
  · exact c_revL S (S.get ha) fun I oI h' ok S' => q I oI _ _ h' (fun A hh => by rw [List.length_reverse]; exact It.revL hh ha) hin_L ok S'
  · exact c_revT S (S.get ha) hz fun I oI h' ok S' => q I oI _ _ h' (fun A hh => by rw [List.length_reverse]; exact It.revT hh ha hz) (hin_T ha hz) ok S'
end
section
open PySem.SeqAt
section
variable {G : Gl} {A : Around} {h : Heap} {env : Env} {an : An} {γ : Pm} {L : Addr} {m : Mp} {led : Led}
/-! in, ==, over numbers and words -/
def isI (k : Int) : Value → Bool | .int n _ => decide (n = k) | _ => false
theorem eqi {A : Around} {s : Shared} {n k : Int} {t u : Tok} : EqAt A s (.int n t) (.int k u) (decide (n = k)) := fun prog w _ _ q => (intKind prog w).eqBool (intKind_is prog w n t) (intKind_is prog w k u) q
theorem any_isI {vs : List Value} {ns : List Int} (i : IntsAre vs ns) (k : Int) : vs.any (isI k) = decide (k ∈ ns) := by
  induction i with
  | nil => simp
  | cons n t _ ih =>
    rw [List.any_cons, ih]
    by_cases e : n = k
    · subst e; simp [isI]
    · have : ¬ k = n := fun q => e q.symm
      simp [isI, e, this]
theorem ints_mem {vs : List Value} {ns : List Int} (i : IntsAre vs ns) : ∀ v ∈ vs, ∃ n t, v = .int n t := by
  induction i with
  | nil => intro v hv; cases hv
  | cons n t _ ih =>
    intro v hv
    rcases List.mem_cons.mp hv with rfl | hv
    · exact ⟨n, t, rfl⟩
    · exact ih v hv
theorem inI_L {a : Addr} {vs : List Value} {ns : List Int} {e : Nat} {k : Int} {t : Tok} {Q : Value → Heap → Prop} (ha : h.get? a = some (lo vs e)) (i : IntsAre vs ns) (q : Q (.bool (decide (k ∈ ns))) h) : WP G A (compareOp .In (.int k t) (.ref a)) Q h := .mk fun tk =>
  in_listAt (s := sh G h tk) (isI k) (lo_list ha) (fun y hy => by obtain ⟨n, u, rfl⟩ := ints_mem i y (by simpa using hy); exact eqi) (by
    have : vs.toArray.any (isI k) = decide (k ∈ ns) := by rw [← any_isI i k]; simp
    rw [this]; exact Po.intro tk q)
theorem inI_T {a : Addr} {vs : List Value} {ns : List Int} {e : Nat} {k : Int} {t : Tok} {Q : Value → Heap → Prop} (ha : h.get? a = some (tu vs e)) (i : IntsAre vs ns) (q : Q (.bool (decide (k ∈ ns))) h) : WP G A (compareOp .In (.int k t) (.ref a)) Q h := .mk fun tk =>
  in_tupleAt (s := sh G h tk) (isI k) ⟨_, ha, rfl, _, rfl⟩ (fun y hy => by obtain ⟨n, u, rfl⟩ := ints_mem i y (by simpa using hy); exact eqi) (by
    have : vs.toArray.any (isI k) = decide (k ∈ ns) := by rw [← any_isI i k]; simp
    rw [this]; exact Po.intro tk q)
def isS (k : Str) : Value → Bool | .str n _ => decide (n = k) | _ => false
theorem eqs {A : Around} {s : Shared} {n k : Str} {t u : Tok} : EqAt A s (.str n t) (.str k u) (decide (n = k)) := fun prog w _ _ q => (strKind prog w).eqBool (strKind_is prog w n t) (strKind_is prog w k u) q
theorem inS_T2 {a : Addr} {x y k : Str} {e : Nat} {t u v : Tok} {Q : Value → Heap → Prop} (ha : h.get? a = some (tu [.str x t, .str y u] e)) (q : Q (.bool (decide (x = k) || decide (y = k))) h) : WP G A (compareOp .In (.str k v) (.ref a)) Q h := .mk fun tk =>
  in_tupleAt (s := sh G h tk) (isS k) ⟨_, ha, rfl, _, rfl⟩ (fun z hz => by
    have hz : z = .str x t ∨ z = .str y u := by simpa using hz
    rcases hz with rfl | rfl <;> exact eqs) (by
    have : #[Value.str x t, .str y u].any (isS k) = (decide (x = k) || decide (y = k)) := by simp [isS]
    rw [this]; exact Po.intro tk q)
theorem inI_D {d : Addr} {o : Obj} {kvs : List (Int × Value)} {k : Int} {t : Tok} {Q : Value → Heap → Prop} (e : h.get? d = some o) (hd : o.IsDictOf (Ikd G) kvs) (hs : (d == sysModules) = false) (q : Q (.bool (valueAt kvs k).isSome) h) : WP G A (compareOp .In (.int k t) (.ref d)) Q h := .mk fun tk =>
  wpAny_in_of (s := sh G h tk) (intKind_is pw G.w k t) hs (Heap.dictOf_iff.mpr ⟨o, e, hd⟩ : h.DictOf (Ikd G) d kvs).mapOf (Po.intro (tk + 1) q)
theorem c_iget {d : Addr} {o : Obj} {kvs : List (Int × Value)} {k : Int} {t : Tok} {dflt : Value} {Q : Value → Heap → Prop} (e : h.get? d = some o) (hd : o.IsDictOf (Ikd G) kvs) (hs : (d == sysModules) = false)
    (q : Q ((valueAt kvs k).getD dflt) h) : WP G A (call (.builtin "dict.get") [.ref d, .int k t, dflt]) Q h := .mk fun tk =>
  have hD : h.DictOf (Ikd G) d kvs := Heap.dictOf_iff.mpr ⟨o, e, hd⟩
  call_meetsIn (s := sh G h tk) PySem.F.slot_dict_get hD.typeIs PySem.F.entry_dict_get (PySem.F.args_dict_get_3 _ _ _) (meets_dict_get_default (Ikd G) d (intKind_is pw G.w k t) hs dflt) ⟨_, hD.mapOf, Po.intro (tk + 1) q⟩
/-- two lists of numbers -/
theorem eq_ints {a b : Addr} {vs us : List Value} {ns ms : List Int} {e e' : Nat} {n : Nat} {Q : Value → Heap → Prop} (hr : Room A n) (ha : h.get? a = some (lo vs e)) (hb : h.get? b = some (lo us e')) (i : IntsAre vs ns) (j : IntsAre us ms)
    (q : Q (.bool (decide (ns = ms))) h) : WP G A (compareOp .Eq (.ref a) (.ref b)) Q h := .mk fun tk => by
  have hu : A.units < cLine := by have := hr.u; omega
  have l1 := i.length
  have l2 := j.length
  by_cases hl : vs.length = us.length
  · refine eq_listAt (s := sh G h tk) (e := fun j => decide (ns[j]? = ms[j]?)) (lo_list ha) (lo_list hb) (by simpa using hl) hu (fun p h1 h2 => ?_) ?_
    · rw [List.size_toArray] at h1 h2
      have key : ∀ {vs : List Value} {ns : List Int}, IntsAre vs ns → ∀ {p : Nat} (hp : p < vs.length), ∃ n t, ns[p]? = some n ∧ vs[p] = .int n t := by
        intro vs ns i
        induction i with
        | nil => intro p hp; simp at hp
        | cons n t _ ih =>
          intro p hp
          cases p with
          | zero => exact ⟨n, t, rfl, rfl⟩
          | succ p => simpa using ih (p := p) (by simpa using hp)
      obtain ⟨x, t, e1, e2⟩ := key i h1
      obtain ⟨y, u, e3, e4⟩ := key j h2
      have e5 : vs.toArray[p]'(by simpa using h1) = .int x t := by simpa using e2
      have e6 : us.toArray[p]'(by simpa using h2) = .int y u := by simpa using e4
      rw [e5, e6, e1, e3]
      have : decide ((some x : Option Int) = some y) = decide (x = y) := by simp
      rw [this]; exact eqi
    · have : (List.range vs.toArray.size).all (fun j => decide (ns[j]? = ms[j]?)) = decide (ns = ms) := by
        rw [List.size_toArray]
        by_cases q : ns = ms
        · subst q; simp
        · rw [decide_eq_false q, ← Bool.not_eq_true]
          intro hall
          rw [List.all_eq_true] at hall
          refine q (List.ext_getElem? fun p => ?_)
          by_cases hp : p < vs.length
          · exact of_decide_eq_true (hall p (List.mem_range.mpr hp))
          · rw [List.getElem?_eq_none (by omega), List.getElem?_eq_none (by omega)]
      rw [this]; exact Po.intro tk q
  · refine eq_list_lengthsAt (s := sh G h tk) (lo_list ha) (lo_list hb) (by simpa using hl) hu ?_
    have : ns ≠ ms := fun q => hl (by rw [l1, l2, q])
    rw [decide_eq_false this] at q
    exact Po.intro tk q
end
end
section
variable {G : Gl} {A : Around} {h : Heap} {env : Env} {an : An} {γ : Pm} {L : Addr} {m : Mp} {led : Led}
theorem c_min {a : Addr} {vs : List Value} {ns : List Int} {e : Nat} {Q : Value → Heap → Prop} (hh : A.handled = none) (S : St G an γ L m led h) (ha : h.get? a = some (lo vs e)) (i : IntsAre vs ns) (hne : 0 < ns.length)
    (q : ∀ M t h', M ∈ ns → (∀ x ∈ ns, M ≤ x) → St G an γ L m led h' → Q (.int M t) h') : WP G A (call (.builtin "min") [.ref a]) Q h := .mk fun tk => by
  obtain ⟨xs, e⟩ := i.allInts.items
  have hns : ns = xs.toList.map (·.1) := by rw [← i.numsOf, ← nums_intItems, ← e]
  have hsz : 0 < xs.size := by have h3 := hne; rw [hns, List.length_map, Array.length_toList] at h3; exact h3
  have hl := lo_list ha
  rw [e] at hl
  refine min_intList (s := sh G h tk) hh hl hsz fun v h' tk hv hk => ?_
  obtain ⟨t, rfl⟩ := intItems_at hv
  obtain ⟨h1, h2⟩ := argBest_lt (numAt xs) (xs.size - 1)
  refine Po.intro tk (q _ t h' ?_ (fun x hx => ?_) (S.keep hk))
  · rw [hns, numAt_eq]; exact getD_mem (by rw [List.length_map, Array.length_toList]; omega)
  · rw [hns] at hx
    obtain ⟨j, hj, rfl⟩ := mem_getD hx
    rw [List.length_map, Array.length_toList] at hj
    rw [← numAt_eq]; exact h2 j (by omega)
theorem c_max {a : Addr} {vs : List Value} {ns : List Int} {e : Nat} {Q : Value → Heap → Prop} (hh : A.handled = none) (S : St G an γ L m led h) (ha : h.get? a = some (lo vs e)) (i : IntsAre vs ns) (hne : 0 < ns.length)
    (q : ∀ M t h', M ∈ ns → (∀ x ∈ ns, x ≤ M) → St G an γ L m led h' → Q (.int M t) h') : WP G A (call (.builtin "max") [.ref a]) Q h := .mk fun tk => by
  obtain ⟨xs, e⟩ := i.allInts.items
  have hns : ns = xs.toList.map (·.1) := by rw [← i.numsOf, ← nums_intItems, ← e]
  have hsz : 0 < xs.size := by have h3 := hne; rw [hns, List.length_map, Array.length_toList] at h3; exact h3
  have hl := lo_list ha
  rw [e] at hl
  refine max_intList (s := sh G h tk) hh hl hsz fun v h' tk hv hk => ?_
  obtain ⟨t, rfl⟩ := intItems_at hv
  obtain ⟨h1, h2⟩ := argBest_gt (numAt xs) (xs.size - 1)
  refine Po.intro tk (q _ t h' ?_ (fun x hx => ?_) (S.keep hk))
  · rw [hns, numAt_eq]; exact getD_mem (by rw [List.length_map, Array.length_toList]; omega)
  · rw [hns] at hx
    obtain ⟨j, hj, rfl⟩ := mem_getD hx
    rw [List.length_map, Array.length_toList] at hj
    rw [← numAt_eq]; exact h2 j (by omega)
theorem c_intb {b : Bool} {Q : Value → Heap → Prop} (q : ∀ t, Q (.int (if b then 1 else 0) t) h) : WP G A (call (.type "int") [.bool b]) Q h := .mk fun tk => call_int_bool (s := sh G h tk) (Po.intro (tk + 1) (q _))
theorem o_pow {n : Nat} {t u : Tok} {Q : Value → Heap → Prop} (hn : n ≤ 1000) (q : ∀ t, Q (.int ((2 ^ n : Nat) : Int) t) h) : WP G A (binaryOp .Pow (.int 2 t) (.int (n : Nat) u)) Q h := .mk fun tk =>
  pow_int (s := sh G h tk) (by omega) (by
    have e : Builtin.Int.intBits 2 = 2 := by decide +kernel
    rw [e]; omega) (by
    have e : (2 : Int) ^ ((n : Nat) : Int).toNat = ((2 ^ n : Nat) : Int) := by simp
    rw [e]; exact Po.intro (tk + 1) (q _))
theorem o_adds {a b : Addr} {vs us : List Value} {e e' : Nat} {Q : Value → Heap → Prop} (S : St G an γ L m led h) (ha : h.get? a = some (lo vs e)) (hb : h.get? b = some (lo us e')) (hz : vs.length + us.length ≤ 1000000)
    (q : ∀ r γ' h', Sub γ γ' → γ' r = some (lo (vs ++ us) 0) → St G an γ' L m led h' → Q (.ref r) h') : WP G A (binaryOp .Add (.ref a) (.ref b)) Q h := .mk fun tk => by
  refine concat_meets (s := sh G h tk) ⟨_, ha, rfl⟩ ⟨_, hb, rfl⟩ noFill_list_add seq_list_add PySem.F.slot_list_add PySem.F.entry_list_add (PySem.F.args_list_add_2 _ _) (list_addW a b vs.toArray us.toArray e e' none none #[] #[] (by rw [sizeLine_eq]; simp; omega)) ⟨ha, hb, ?_⟩
  have e2 : vs.toArray ++ us.toArray = (vs ++ us).toArray := by simp
  rw [e2]
  exact Po.intro tk (q _ _ _ (Sub.ins S.size_none) ins_self (S.made (lo (vs ++ us) 0) rfl))
/-- numbers from below: a floor division, a rest -/
theorem o_fdivn {a b : Nat} {t u : Tok} {Q : Value → Heap → Prop} (hb : 0 < b) (hz : b < 2 ^ 20) (hz2 : a < 2 ^ 20) (q : ∀ t, Q (.int ((a / b : Nat) : Int) t) h) : WP G A (binaryOp .FloorDiv (.int (a : Nat) t) (.int (b : Nat) u)) Q h :=
  o_fdiv (by omega) (PyProof.noPylong_small (by omega)) fun t => by
    have e : ((a : Nat) : Int).fdiv (b : Nat) = ((a / b : Nat) : Int) := by rw [Int.fdiv_eq_ediv_of_nonneg _ (by omega)]; exact (Int.natCast_ediv a b).symm
    rw [e]; exact q t
theorem o_modn {a b : Nat} {t u : Tok} {Q : Value → Heap → Prop} (hb : 0 < b) (q : ∀ t, Q (.int ((a % b : Nat) : Int) t) h) : WP G A (binaryOp .Mod (.int (a : Nat) t) (.int (b : Nat) u)) Q h :=
  o_mod (by omega) fun t => by
    have e : ((a : Nat) : Int).fmod (b : Nat) = ((a % b : Nat) : Int) := by rw [Int.fmod_eq_emod_of_nonneg _ (by omega)]; exact (Int.natCast_emod a b).symm
    rw [e]; exact q t
end
theorem lk_head {x : Str} {c : Addr} {r : List (Str × Addr)} : ((x, c) :: r).lookup x = some c := by simp
theorem lk_tail {x y : Str} {c d : Addr} {r : List (Str × Addr)} (h : x ≠ y) (e : r.lookup x = some c) : ((y, d) :: r).lookup x = some c := by
  have hb : (x == y) = false := by simpa using h
  rw [List.lookup_cons, hb]; exact e
section
variable {G : Gl} {A : Around} {h : Heap} {env : Env} {an : An} {γ : Pm} {L : Addr} {m : Mp} {led : Led}
theorem St.frz {a : Addr} {o : Obj} (S : St G an γ L m ((a, o) :: led) h) (ha : an.h0.objs.size ≤ a) : ∃ γ', Sub γ γ' ∧ γ' a = some o ∧ St G an γ' L m led h :=
  ⟨_, Sub.ins (S.nw _ (.head _)).2.1, ins_self, S.freeze ha⟩
theorem St.madeX (S : St G an γ L m led h) (o : Obj) (hf : o.isFreed = false) : ∃ γ' r, h.objs.size = r ∧ Sub γ γ' ∧ γ' r = some o ∧ St G an γ' L m led (h.push o) :=
  ⟨_, _, rfl, Sub.ins S.size_none, ins_self, S.made o hf⟩
theorem n_ce {sc : Scope} {x : Str} {pos : Pos} {c : Addr} {o : Obj} {v : Value} {cs : List (Str × Addr)} {Q : Value → Heap → Prop} (E : EOk sc env L) (hcs : env.cells = cs) (hx : sc.names.lookup x = some .cell) (hc : cs.lookup x = some c) (ho : h.get? c = some o) (hd : o.data = .cell (some v))
    (q : Q v h) (hdb : (x == ("__debug__" : Str)) = false) : WP G A (eval (.Name x pos) env) Q h := n_cell E (by rw [hcs]; exact hc) ho hd q hx hdb
end
local macro_rules | `(tactic| wtm_at "lc") => `(tactic| first | exact lk_head | exact lk_tail (sne (by decide)) (by wtm_at "lc"))
local macro_rules | `(tactic| wtm_at "nc") => `(tactic| ((with_reducible show WP _ _ (eval (Expr.Name _ _) _) _ _); refine n_ce (by assumption) (by assumption) (by kernel_rfl) (by wtm_at "lc") (by wtm_at "at") (by assumption) ?_ (by kernel_rfl)))
local macro_rules | `(tactic| wtm_at "goc") => `(tactic| (first | wtm_at "m" | wtm_at "nl" | wtm_at "nc" | wtm_at "ga" | wtm_at "ds"))
local macro_rules | `(tactic| wtm_at "gc") => `(tactic| (repeat (wtm_at "goc")))
/-! comprehensions once more: two clauses, own cells, several targets -/
theorem compTurn_2a (elt t1 i1 t2 i2 : Expr) (scope : Scope) (pos : Pos) (it acc : Value) (env : Env) :
    compTurn (.ListComp elt [⟨t1, i1, [], 0⟩, ⟨t2, i2, [], 0⟩] scope pos) 0 it acc env = (standAt i1.pos >>= fun _ => pyNext it >>= fun r => match r with
      | none => pure (.done .next)
      | some v => letOwnedTupleGo t1 it v >>= fun _ => assign t1 env v >>= fun _ =>
        eval i2 env >>= fun x => standAt i2.pos >>= fun _ => foldedSetIterable i2 env x >>= fun x => holding [x] (pyIter x) >>= fun it2 => runOwn (.compStart (.ListComp elt [⟨t1, i1, [], 0⟩, ⟨t2, i2, [], 0⟩] scope pos) 1 it2 acc env) env >>= fun _ =>
          again (.compLoop (.ListComp elt [⟨t1, i1, [], 0⟩, ⟨t2, i2, [], 0⟩] scope pos) 0 it acc env)) := by rfl
theorem compTurn_2b (elt t1 i1 t2 i2 : Expr) (scope : Scope) (pos : Pos) (it acc : Value) (env : Env) :
    compTurn (.ListComp elt [⟨t1, i1, [], 0⟩, ⟨t2, i2, [], 0⟩] scope pos) 1 it acc env = (standAt i2.pos >>= fun _ => pyNext it >>= fun r => match r with
      | none => pure (.done .next)
      | some v => letOwnedTupleGo t2 it v >>= fun _ => assign t2 env v >>= fun _ =>
        (eval elt env >>= fun x => call (.builtin "list.append") [acc, x] >>= fun _ => pure ()) >>= fun _ =>
          again (.compLoop (.ListComp elt [⟨t1, i1, [], 0⟩, ⟨t2, i2, [], 0⟩] scope pos) 1 it acc env)) := by rfl
section
variable {G : Gl} {A : Around} {h : Heap} {env : Env}
abbrev CR (G : Gl) (R : Heap → Prop) : Result → Shared → Prop := fun r s' => ∃ f h' t', r = .ok f ∧ s' = sh G h' t' ∧ f = .next ∧ R h'
/-- one clause, any target -/
theorem cd_comp1 {elt target iter : Expr} {scope : Scope} {pos : Pos} {I D : Addr} {n : Nat} (Inv : Nat → Heap → Prop) {R : Heap → Prop} (inv0 : Inv 0 h)
    (self : WP G A (pyIter (.ref I)) (fun r h' => r = .ref I ∧ h' = h) h)
    (turn : ∀ i h, i < n → Inv i h → WP G A (pyNext (.ref I)) (fun r h1 => ∃ v, r = some v ∧ WP G A (letOwnedTupleGo target (.ref I) v) (fun _ h2 => WP G A (assign target env v) (fun _ h3 =>
      WP G A (eval elt env) (fun x h4 => WP G A (call (.builtin "list.append") [.ref D, x]) (fun _ h5 => Inv (i + 1) h5) h4) h3) h2) h1) h)
    (done : ∀ h, Inv n h → WP G A (pyNext (.ref I)) (fun r h1 => r = none ∧ R h1) h) :
    CD G A (.compStart (.ListComp elt [⟨target, iter, [], 0⟩] scope pos) 0 (.ref I) (.ref D) env) (fun f h' => f = .next ∧ R h') h := .mk fun tk => by
  have loop : ∀ t, codeAny (MD G) A (.compLoop (.ListComp elt [⟨target, iter, [], 0⟩] scope pos) 0 (.ref I) (.ref D) env) (CR G R) (sh G h t) := fun t => by
    refine codeAny_loop rfl (fun k s => ∃ h t i, s = sh G h t ∧ i ≤ n ∧ k = n - i ∧ Inv i h) ?_ n ⟨h, t, 0, rfl, Nat.zero_le _, rfl, inv0⟩
    rintro k s ⟨h, t, i, es, hi, hk, inv⟩
    subst es
    show wpAny _ _ ((compTurn (.ListComp elt [⟨target, iter, [], 0⟩] scope pos) 0 (.ref I) (.ref D) env).onRaise (fun x => do noteFrame x env; theTreesLotGoes x)) _ _ _
    refine wpAny_noted ?_
    rw [compTurn_list1]
    refine wpAny_bind (wpAny_standAt (wpAny_bind ?_))
    by_cases hlt : i < n
    · refine wpAny_mono ((turn i h hlt inv).run t) (fun r s1 ⟨h1, t1, e, v, er, q⟩ => ?_) fun _ _ e => e.elim
      subst e er
      refine wpAny_bind (wpAny_mono (q.run t1) (fun _ s2 ⟨h2, t2, e, q⟩ => ?_) fun _ _ e => e.elim)
      subst e
      refine wpAny_bind (wpAny_mono (q.run t2) (fun _ s2 ⟨h3, t3, e, q⟩ => ?_) fun _ _ e => e.elim)
      subst e
      refine wpAny_bind (wpAny_bind (wpAny_mono (q.run t3) (fun _ s2 ⟨h4, t4, e, q⟩ => ?_) fun _ _ e => e.elim))
      subst e
      refine wpAny_bind (wpAny_mono (q.run t4) (fun _ s2 ⟨h5, t5, e, q⟩ => ?_) fun _ _ e => e.elim)
      subst e
      exact wpAny_pure (wpAny_pure ⟨rfl, n - (i + 1), stepLt hk hlt, h5, t5, i + 1, rfl, hlt, rfl, q⟩)
    · have : i = n := by omega
      subst this
      refine wpAny_mono ((done h inv).run t) (fun r s1 ⟨h1, t1, e, er, q⟩ => ?_) fun _ _ e => e.elim
      subst e er
      exact wpAny_pure ⟨.next, h1, t1, rfl, rfl, rfl, q⟩
  refine codeAny_compStart_list (loop _) (wpAny_mono (self.run _) (fun r s1 ⟨h1, t1, es, er, eh⟩ => ?_) fun _ _ e => e.elim)
  subst es er eh
  exact loop t1
/-- the inner clause of two -/
theorem cd_comp2b {elt t1 i1 t2 i2 : Expr} {scope : Scope} {pos : Pos} {I D : Addr} {n : Nat} (Inv : Nat → Heap → Prop) {R : Heap → Prop} (inv0 : Inv 0 h)
    (self : WP G A (pyIter (.ref I)) (fun r h' => r = .ref I ∧ h' = h) h)
    (turn : ∀ i h, i < n → Inv i h → WP G A (pyNext (.ref I)) (fun r h1 => ∃ v, r = some v ∧ WP G A (letOwnedTupleGo t2 (.ref I) v) (fun _ h2 => WP G A (assign t2 env v) (fun _ h3 =>
      WP G A (eval elt env) (fun x h4 => WP G A (call (.builtin "list.append") [.ref D, x]) (fun _ h5 => Inv (i + 1) h5) h4) h3) h2) h1) h)
    (done : ∀ h, Inv n h → WP G A (pyNext (.ref I)) (fun r h1 => r = none ∧ R h1) h) :
    CD G A (.compStart (.ListComp elt [⟨t1, i1, [], 0⟩, ⟨t2, i2, [], 0⟩] scope pos) 1 (.ref I) (.ref D) env) (fun f h' => f = .next ∧ R h') h := .mk fun tk => by
  have loop : ∀ t, codeAny (MD G) A (.compLoop (.ListComp elt [⟨t1, i1, [], 0⟩, ⟨t2, i2, [], 0⟩] scope pos) 1 (.ref I) (.ref D) env) (CR G R) (sh G h t) := fun t => by
    refine codeAny_loop rfl (fun k s => ∃ h t i, s = sh G h t ∧ i ≤ n ∧ k = n - i ∧ Inv i h) ?_ n ⟨h, t, 0, rfl, Nat.zero_le _, rfl, inv0⟩
    rintro k s ⟨h, t, i, es, hi, hk, inv⟩
    subst es
    show wpAny _ _ ((compTurn (.ListComp elt [⟨t1, i1, [], 0⟩, ⟨t2, i2, [], 0⟩] scope pos) 1 (.ref I) (.ref D) env).onRaise (fun x => do noteFrame x env; theTreesLotGoes x)) _ _ _
    refine wpAny_noted ?_
    rw [compTurn_2b]
    refine wpAny_bind (wpAny_standAt (wpAny_bind ?_))
    by_cases hlt : i < n
    · refine wpAny_mono ((turn i h hlt inv).run t) (fun r s1 ⟨h1, t1, e, v, er, q⟩ => ?_) fun _ _ e => e.elim
      subst e er
      refine wpAny_bind (wpAny_mono (q.run t1) (fun _ s2 ⟨h2, t2, e, q⟩ => ?_) fun _ _ e => e.elim)
      subst e
      refine wpAny_bind (wpAny_mono (q.run t2) (fun _ s2 ⟨h3, t3, e, q⟩ => ?_) fun _ _ e => e.elim)
      subst e
      refine wpAny_bind (wpAny_bind (wpAny_mono (q.run t3) (fun _ s2 ⟨h4, t4, e, q⟩ => ?_) fun _ _ e => e.elim))
      subst e
      refine wpAny_bind (wpAny_mono (q.run t4) (fun _ s2 ⟨h5, t5, e, q⟩ => ?_) fun _ _ e => e.elim)
      subst e
      exact wpAny_pure (wpAny_pure ⟨rfl, n - (i + 1), stepLt hk hlt, h5, t5, i + 1, rfl, hlt, rfl, q⟩)
    · have : i = n := by omega
      subst this
      refine wpAny_mono ((done h inv).run t) (fun r s1 ⟨h1, t1, e, er, q⟩ => ?_) fun _ _ e => e.elim
      subst e er
      exact wpAny_pure ⟨.next, h1, t1, rfl, rfl, rfl, q⟩
  refine codeAny_of_tree ?_
  show wpAny _ _ ((compStart (.ListComp elt [⟨t1, i1, [], 0⟩, ⟨t2, i2, [], 0⟩] scope pos) 1 (.ref I) (.ref D) env).onRaise (fun x => do noteFrame x env; standAt theWindowsPlace)) _ _ _
  refine wpAny_notedAt ?_
  unfold compStart
  show wpAny _ _ (ask >>= _) _ _ _
  refine wpAny_bind (wpAny_askSetting (wpAny_ite ?_))
  split
  · first
      | exact wpAny_bind (wpAny_pure (wpAny_pure (And.intro rfl (loop tk))))
      | exact wpAny_pure (And.intro rfl (loop tk))
  · refine wpAny_bind (wpAny_rule ?_)
    show wpAny _ _ (standAt i2.pos >>= _) _ _ _
    refine wpAny_bind (wpAny_standAt (wpAny_bind (wpAny_mono (self.run _) (fun r s1 ⟨h1, t1, es, er, eh⟩ => ?_) fun _ _ e => e.elim)))
    subst es er eh
    exact wpAny_pure (And.intro rfl (loop t1))
theorem cd_comp2 {elt t1 i1 t2 i2 : Expr} {scope : Scope} {pos : Pos} {I D : Addr} {n : Nat} (Inv : Nat → Heap → Prop) {R : Heap → Prop} (inv0 : Inv 0 h)
    (self : WP G A (pyIter (.ref I)) (fun r h' => r = .ref I ∧ h' = h) h)
    (hs : ∀ x, foldedSetIterable i2 env x = Pure.pure x)
    (turn : ∀ i h, i < n → Inv i h → WP G A (pyNext (.ref I)) (fun r h1 => ∃ v, r = some v ∧ WP G A (letOwnedTupleGo t1 (.ref I) v) (fun _ h2 => WP G A (assign t1 env v) (fun _ h3 =>
      WP G A (eval i2 env) (fun x h4 => WP G A (pyIter x) (fun it2 h5 => CD G A (.compStart (.ListComp elt [⟨t1, i1, [], 0⟩, ⟨t2, i2, [], 0⟩] scope pos) 1 it2 (.ref D) env) (fun f h6 => f = .next ∧ Inv (i + 1) h6) h5) h4) h3) h2) h1) h)
    (done : ∀ h, Inv n h → WP G A (pyNext (.ref I)) (fun r h1 => r = none ∧ R h1) h) :
    CD G A (.compStart (.ListComp elt [⟨t1, i1, [], 0⟩, ⟨t2, i2, [], 0⟩] scope pos) 0 (.ref I) (.ref D) env) (fun f h' => f = .next ∧ R h') h := .mk fun tk => by
  have loop : ∀ t, codeAny (MD G) A (.compLoop (.ListComp elt [⟨t1, i1, [], 0⟩, ⟨t2, i2, [], 0⟩] scope pos) 0 (.ref I) (.ref D) env) (CR G R) (sh G h t) := fun t => by
    refine codeAny_loop rfl (fun k s => ∃ h t i, s = sh G h t ∧ i ≤ n ∧ k = n - i ∧ Inv i h) ?_ n ⟨h, t, 0, rfl, Nat.zero_le _, rfl, inv0⟩
    rintro k s ⟨h, t, i, es, hi, hk, inv⟩
    subst es
    show wpAny _ _ ((compTurn (.ListComp elt [⟨t1, i1, [], 0⟩, ⟨t2, i2, [], 0⟩] scope pos) 0 (.ref I) (.ref D) env).onRaise (fun x => do noteFrame x env; theTreesLotGoes x)) _ _ _
    refine wpAny_noted ?_
    rw [compTurn_2a]
    refine wpAny_bind (wpAny_standAt (wpAny_bind ?_))
    by_cases hlt : i < n
    · refine wpAny_mono ((turn i h hlt inv).run t) (fun r s1 ⟨h1, t1, e, v, er, q⟩ => ?_) fun _ _ e => e.elim
      subst e er
      refine wpAny_bind (wpAny_mono (q.run t1) (fun _ s2 ⟨h2, t2, e, q⟩ => ?_) fun _ _ e => e.elim)
      subst e
      refine wpAny_bind (wpAny_mono (q.run t2) (fun _ s2 ⟨h3, t3, e, q⟩ => ?_) fun _ _ e => e.elim)
      subst e
      refine wpAny_bind (wpAny_mono (q.run t3) (fun x s2 ⟨h4, t4, e, q⟩ => ?_) fun _ _ e => e.elim)
      subst e
      refine wpAny_bind (wpAny_standAt (wpAny_bind (wpAny_of_eq (hs x) ?_)))
      refine wpAny_bind (wpAny_holding (wpAny_mono (q.run t4) (fun _ s2 ⟨h5, t5, e, q⟩ => ?_) fun _ _ e => e.elim))
      subst e
      refine wpAny_bind (wpAny_runOwn (codeAny_mono (q.run t5) fun r s2 ⟨f, h6, t6, e1, e2, e3, inv⟩ => ?_))
      subst e1 e2 e3
      exact wpAny_pure ⟨rfl, n - (i + 1), stepLt hk hlt, h6, t6, i + 1, rfl, hlt, rfl, inv⟩
    · have : i = n := by omega
      subst this
      refine wpAny_mono ((done h inv).run t) (fun r s1 ⟨h1, t1, e, er, q⟩ => ?_) fun _ _ e => e.elim
      subst e er
      exact wpAny_pure ⟨.next, h1, t1, rfl, rfl, rfl, q⟩
  refine codeAny_compStart_list (loop _) (wpAny_mono (self.run _) (fun r s1 ⟨h1, t1, es, er, eh⟩ => ?_) fun _ _ e => e.elim)
  subst es er eh
  exact loop t1
end
abbrev cellO : Obj := { cls := .type "cell", data := .cell none }
section
variable {G : Gl} {A : Around} {h : Heap} {env : Env} {an : An} {γ : Pm} {L : Addr} {m : Mp} {led : Led}
/-- a comprehension's end -/
theorem lcx_end {e : Expr} {scope sc : Scope} {cl : List (Str × Addr)} {I C D : Addr} {oI oC : Obj} {mC0 : Mp} {RR : Value → Addr → Result → Shared → Prop} {h₁ : Heap} {tk : Nat} {ce : Led}
    (Fin : List Value → Pm → Led → Prop) (E : EOk sc env L) (hD : an.h0.objs.size ≤ D) (hC : an.h0.objs.size ≤ C) (hk : scope.kind = .function)
    (S3 : St G an γ L m ((C, oC) :: (D, lo [] 0) :: ce ++ (I, oI) :: led) h₁) (hns₁ : h₁.Ns C mC0)
    (body : ∀ oL en, EOk (relb scope sc) en C → en.cells = cl → en = cenv scope sc cl C env → St G an γ C mC0 (ce ++ (I, oI) :: (L, oL) :: (D, lo [] 0) :: led) h₁ →
      CD G A (.compStart e 0 (.ref I) (.ref D) en) (fun f h2 => f = .next ∧ ∃ mC ys k γ' led', Sub γ γ' ∧ Fin ys γ' led' ∧ St G an γ' C mC ((L, oL) :: (D, lo ys k) :: led') h2) h₁)
    (fin : ∀ C oC mC ys k γ' γ'' led' h' t, Sub γ γ' → Sub γ' γ'' → Fin ys γ' led' → γ'' D = some (lo ys k) → h'.Ns C mC → St G an γ'' L m ((C, oC) :: led') h' → RR (.ref D) C (.ok .next) (sh G h' t)) :
    codeAny (MD G) A (.compStart e 0 (.ref I) (.ref D) (cenv scope sc cl C env)) (RR (.ref D) C) (sh G h₁ tk) := by
  have hLs := S3.hL
  obtain ⟨oL', esL, epL, eL, rL⟩ := S3.ns
  obtain ⟨oL, hoL, S4⟩ := S3.swap hns₁ hC
  have : oL' = oL := by rw [hoL] at eL; cases eL; rfl
  subst this
  have S5 : St G an γ C mC0 (ce ++ (I, oI) :: (L, oL') :: (D, lo [] 0) :: led) h₁ := S4.perm (by
    show ((L, oL') :: (D, lo [] 0) :: (ce ++ (I, oI) :: led)).Perm _
    have p1 : (ce ++ (I, oI) :: (L, oL') :: (D, lo [] 0) :: led).Perm ((I, oI) :: (L, oL') :: (D, lo [] 0) :: (ce ++ led)) := by
      refine List.perm_middle.trans (List.Perm.cons _ ?_)
      refine List.perm_middle.trans (List.Perm.cons _ ?_)
      exact List.perm_middle
    have p2 : ((L, oL') :: (D, lo [] 0) :: (ce ++ (I, oI) :: led)).Perm ((I, oI) :: (L, oL') :: (D, lo [] 0) :: (ce ++ led)) := by
      refine ((List.perm_middle.cons _).cons _).trans ?_
      refine (List.Perm.cons (L, oL') (List.Perm.swap (I, oI) (D, lo [] 0) _)).trans ?_
      exact List.Perm.swap (I, oI) (L, oL') _
    exact p2.trans p1.symm)
  refine codeAny_mono ((body oL' _ (cenv_ok E hk) rfl rfl S5).run tk) fun r s' ⟨f, h', t', e1, e2, e3, mC, ys, k, γ', led', s1, q, S2⟩ => ?_
  subst e1 e2 e3
  have hnC := S2.ns
  obtain ⟨oC', hoC', S3'⟩ := S2.swap (mC := m) ⟨oL', esL, epL, (S2.nw _ (.head _)).1, rL⟩ hLs
  have S4' := (S3'.perm (List.Perm.swap _ _ _)).freeze hD
  exact fin C oC' mC ys k _ _ _ h' t' s1 (Sub.ins (S2.nw _ (.tail _ (.head _))).2.1) q ins_self hnC S4'
theorem lcx_core0 {e : Expr} {scope sc : Scope} {cl : List (Str × Addr)} {I : Addr} {oI : Obj} {E' : Value → Shared → Prop} {RR : Value → Addr → Result → Shared → Prop} {tk : Nat} (Fin : List Value → Pm → Led → Prop)
    (E : EOk sc env L) (S : St G an γ L m ((I, oI) :: led) h) (hcell : ∀ y ∈ scope.names, y.2 ≠ .cell) (hk : scope.kind = .function)
    (body : ∀ C D oL mC0 h₁ en, EOk (relb scope sc) en C → en.cells = cl → St G an γ C mC0 ((I, oI) :: (L, oL) :: (D, lo [] 0) :: led) h₁ →
      CD G A (.compStart e 0 (.ref I) (.ref D) en) (fun f h2 => f = .next ∧ ∃ mC ys k γ' led', Sub γ γ' ∧ Fin ys γ' led' ∧ St G an γ' C mC ((L, oL) :: (D, lo ys k) :: led') h2) h₁)
    (fin : ∀ D C oC mC ys k γ' γ'' led' h' t, Sub γ γ' → Sub γ' γ'' → Fin ys γ' led' → γ'' D = some (lo ys k) → h'.Ns C mC → St G an γ'' L m ((C, oC) :: led') h' → RR (.ref D) C (.ok .next) (sh G h' t)) :
    wpAny (MD G) A (newList []) (fun acc s₃ => wpAny (MD G) A (newFunctionEnv scope env.globals cl [] env.qual none .none (some env)) (fun cenv s₄ =>
      codeAny (MD G) A (.compStart e 0 (.ref I) acc { cenv with scope := relabel scope env }) (RR acc cenv.locals) s₄) E' s₃) E' (sh G h tk) := by
  have hD := S.up
  refine wpAny_newObj_type (wpAny_newFunctionEnv hcell (by intro y hy; simp at hy) (fun h₁ hns₁ hsb₁ => ?_) hk)
  dsimp only [sh] at hns₁ hsb₁
  change codeAny (MD G) A (.compStart e 0 (.ref I) (.ref h.objs.size) ({ (newEnv scope (h.push (lo [] 0)).objs.size env.globals cl env.qual none .none (some env) builtinsNs) with scope := relabel scope env } : Env)) (RR (.ref h.objs.size) (h.push (lo [] 0)).objs.size) (sh G h₁ (tk + 0))
  have S1 := S.push_led (lo [] 0) rfl
  change Heap.Ns h₁ (h.push (lo [] 0)).objs.size _ at hns₁
  change Heap.SameBut (h.push (lo [] 0)).objs.size ((h.push (lo [] 0)).push _) h₁ at hsb₁
  have hC : an.h0.objs.size ≤ (h.push (lo [] 0)).objs.size := S1.up
  have S2 := S1.push_led ({ cls := .type (if (some env).isSome then "dict" else "frame"), data := .dict #[] } : Obj) rfl
  generalize hDd : h.objs.size = D at S1 S2 hD ⊢
  generalize hCd : (h.push (lo [] 0)).objs.size = C at hns₁ hsb₁ S2 hC ⊢
  obtain ⟨oC, hoC, -⟩ : ∃ oC, h₁.get? C = some oC ∧ True := by obtain ⟨o, _, _, e, _⟩ := hns₁; exact ⟨o, e, trivial⟩
  have S3 := S2.turn hsb₁.extBut hoC
  have erel : ({ (newEnv scope C env.globals cl env.qual none .none (some env) builtinsNs) with scope := relabel scope env } : Env) = cenv scope sc cl C env := by
    rw [E.rel]; rfl
  rw [erel]
  exact lcx_end (ce := []) Fin E hD hC hk S3 hns₁ (fun oL en e1 e2 _ S => body C D oL _ h₁ en e1 e2 S) (fun C => fin D C)
theorem newEnv1 {scope : Scope} {cl : List (Str × Addr)} {y : Str} {h : Heap} {tk : Nat} {E' : Value → Shared → Prop} {Q : Env → Shared → Prop} (hcs : ∀ N, cellsFrom N scope.names cl = (y, N) :: cl) (hps : ∀ h, pushCells h scope.names = h.push cellO)
    (q : Q (newEnv scope h.objs.size env.globals ((y, h.objs.size + 1) :: cl) env.qual none .none (some env) builtinsNs) (sh G ((h.push ({ cls := .type "dict", data := .dict #[] } : Obj)).push cellO) tk)) :
    wpAny (MD G) A (newFunctionEnv scope env.globals cl [] env.qual none .none (some env)) Q E' (sh G h tk) := by
  simp only [newFunctionEnv, Option.isSome_some, if_true]
  refine wpAny_bind (wpAny_alloc ?_)
  refine wpAny_bind (wpAny_layCells _ (fun name kind cells => by cases hkc : kind == NameKind.cell <;> simp [hkc]) _ _ _ _ ?_)
  rw [hcs, hps]
  refine wpAny_bind ?_
  rw [List.forIn_nil]
  refine wpAny_pure (wpAny_pure ?_)
  have e : (h.push ({ cls := .type "dict", data := .dict #[] } : Obj)).objs.size = h.objs.size + 1 := Heap.size_push ..
  show Q (newEnv scope h.objs.size env.globals ((y, (h.push ({ cls := .type "dict", data := .dict #[] } : Obj)).objs.size) :: cl) env.qual none .none (some env) builtinsNs) _
  rw [e]
  exact q
theorem lcx_core1 {e : Expr} {scope sc : Scope} {cl : List (Str × Addr)} {y : Str} {I : Addr} {oI : Obj} {E' : Value → Shared → Prop} {RR : Value → Addr → Result → Shared → Prop} {tk : Nat} (Fin : List Value → Pm → Led → Prop)
    (E : EOk sc env L) (S : St G an γ L m ((I, oI) :: led) h) (hcs : ∀ N, cellsFrom N scope.names cl = (y, N) :: cl) (hps : ∀ h, pushCells h scope.names = h.push cellO) (hk : scope.kind = .function)
    (body : ∀ C D K oL mC0 h₁ en, EOk (relb scope sc) en C → en.cells = (y, K) :: cl → an.h0.objs.size ≤ K → St G an γ C mC0 ((K, cellO) :: (I, oI) :: (L, oL) :: (D, lo [] 0) :: led) h₁ →
      CD G A (.compStart e 0 (.ref I) (.ref D) en) (fun f h2 => f = .next ∧ ∃ mC ys k γ' led', Sub γ γ' ∧ Fin ys γ' led' ∧ St G an γ' C mC ((L, oL) :: (D, lo ys k) :: led') h2) h₁)
    (fin : ∀ D C oC mC ys k γ' γ'' led' h' t, Sub γ γ' → Sub γ' γ'' → Fin ys γ' led' → γ'' D = some (lo ys k) → h'.Ns C mC → St G an γ'' L m ((C, oC) :: led') h' → RR (.ref D) C (.ok .next) (sh G h' t)) :
    wpAny (MD G) A (newList []) (fun acc s₃ => wpAny (MD G) A (newFunctionEnv scope env.globals cl [] env.qual none .none (some env)) (fun cenv s₄ =>
      codeAny (MD G) A (.compStart e 0 (.ref I) acc { cenv with scope := relabel scope env }) (RR acc cenv.locals) s₄) E' s₃) E' (sh G h tk) := by
  have hD := S.up
  refine wpAny_newObj_type ?_
  refine newEnv1 (h := h.push (lo [] 0)) (tk := tk) hcs hps ?_
  have S1 := S.push_led (lo [] 0) rfl
  have hC : an.h0.objs.size ≤ (h.push (lo [] 0)).objs.size := S1.up
  have hN := Heap.Ns.new (h.push (lo [] 0)) (.type "dict")
  have S2 := S1.push_led ({ cls := .type "dict", data := .dict #[] } : Obj) rfl
  have hK : an.h0.objs.size ≤ ((h.push (lo [] 0)).push ({ cls := .type "dict", data := .dict #[] } : Obj)).objs.size := S2.up
  have S3 := S2.push_led cellO rfl
  have hN3 := Heap.Ns.push hN cellO
  have eK : (h.push (lo [] 0)).objs.size + 1 = ((h.push (lo [] 0)).push ({ cls := .type "dict", data := .dict #[] } : Obj)).objs.size := by rw [Heap.size_push (h.push (lo [] 0))]
  rw [eK]
  show codeAny (MD G) A (.compStart e 0 (.ref I) (.ref h.objs.size) _) (RR (.ref h.objs.size) (h.push (lo [] 0)).objs.size) _
  generalize ((h.push (lo [] 0)).push ({ cls := .type "dict", data := .dict #[] } : Obj)).objs.size = K at hK S3 ⊢
  generalize h.objs.size = D at S3 hD ⊢
  have erel : ({ (newEnv scope (h.push (lo [] 0)).objs.size env.globals ((y, K) :: cl) env.qual none .none (some env) builtinsNs) with scope := relabel scope env } : Env) = cenv scope sc ((y, K) :: cl) (h.push (lo [] 0)).objs.size env := by
    rw [E.rel]; rfl
  rw [erel]
  generalize (h.push (lo [] 0)).objs.size = C at hC hN3 S3 ⊢
  have S4 : St G an γ L m ((C, ({ cls := .type "dict", data := .dict #[] } : Obj)) :: (D, lo [] 0) :: [(K, cellO)] ++ (I, oI) :: led) _ := S3.perm ((List.Perm.swap _ _ _).trans (List.Perm.cons _ (List.Perm.swap _ _ _)))
  exact lcx_end (ce := [(K, cellO)]) Fin E hD hC hk S4 hN3 (fun oL en e1 e2 _ S => body C D K oL _ _ en e1 e2 hK S) (fun C => fin D C)
/-- behind its iterator -/
structure LCX (G : Gl) (A : Around) (env : Env) (e : Expr) (scope : Scope) (use : Option (Value → Sem Unit)) (Q : Value → Heap → Prop) (it : Value) (h : Heap) : Prop where
  run : ∀ tk, ∃ cl, closureFor scope env = Pure.pure cl ∧ 
    wpAny (MD G) A (newList []) (fun acc s₃ => wpAny (MD G) A (newFunctionEnv scope env.globals cl [] env.qual none .none (some env)) (fun cenv s₄ =>
      codeAny (MD G) A (.compStart e 0 it acc { cenv with scope := relabel scope env }) (compPost (MD G) A No use (Po G Q) acc cenv.locals) s₄) No s₃) No (sh G h tk)
def okC (scope : Scope) : Bool := scope.names.all (fun y => y.2 != .local || decide (scope.names.lookup y.1 = some .local)) && decide (scope.kind = .function)
theorem okC_of {scope : Scope} (e : okC scope = true) : (∀ y ∈ scope.names, y.2 = .local → scope.names.lookup y.1 = some .local) ∧ scope.kind = .function := by
  unfold okC at e
  simp only [Bool.and_eq_true, List.all_eq_true, Bool.or_eq_true, bne_iff_ne, ne_eq, decide_eq_true_eq] at e
  exact ⟨fun y hy q => (e.1 y hy).resolve_left fun z => z q, e.2⟩
theorem e_LCX {elt tgt iter : Expr} {ifs : List Expr} {rest : List Comprehension} {scope : Scope} {pos : Pos} {Q : Value → Heap → Prop}
    (q : WP G A (eval iter env) (fun xv h1 => WP G A (pyIter xv) (fun it h2 => LCX G A env (.ListComp elt (⟨tgt, iter, ifs, 0⟩ :: rest) scope pos) scope none Q it h2) h1) h) (hs : ∀ x, foldedSetIterable iter env x = Pure.pure x)
    {cl : List (Str × Addr)} (hcl : closL env.cells scope.names [] = some cl) (hp : okC scope = true) : WP G A (eval (.ListComp elt (⟨tgt, iter, ifs, 0⟩ :: rest) scope pos) env) Q h := .mk fun tk => by
  rw [eval_ListComp]
  obtain ⟨p2, p3⟩ := okC_of hp
  refine wpAny_comprehension_free (use := none) rfl hs (clos_of hcl) p3 p2 (q.thn fun xv h1 t1 q => q.thn fun it h2 t2 q => ?_)
  obtain ⟨cl', c1, z⟩ := q.run t2
  have : cl' = cl := by
    have e := c1.symm.trans (clos_of hcl)
    exact (Sem.pure.inj e)
  subst this
  exact z
theorem x_LCX {elt tgt iter : Expr} {ifs : List Expr} {rest : List Comprehension} {y : Str} {py : Pos} {scope : Scope} {pos spos : Pos} {cl : List (Str × Addr)} {Q : Flow → Heap → Prop}
    (hsw : swapsWith (.ListComp elt (⟨tgt, iter, ifs, 0⟩ :: rest) scope pos) (some (.Name y py)) spos.line env = Pure.pure true)
    (hs : ∀ x, foldedSetIterable iter env x = Pure.pure x)
    (hcl : closL env.cells scope.names [] = some cl) (hp : okC scope = true)
    (q : WP G A (eval iter env) (fun xv h1 => WP G A (pyIter xv) (fun it h2 => LCX G A env (.ListComp elt (⟨tgt, iter, ifs, 0⟩ :: rest) scope pos) scope (some (assign (.Name y py) env)) (fun _ => Q .next) it h2) h1) h) :
    WP G A (exec (.Assign [.Name y py] (.ListComp elt (⟨tgt, iter, ifs, 0⟩ :: rest) scope pos) spos) env) Q h := .mk fun tk => by
  rw [exec_Assign_Name_used _ _ _ _ hsw]
  refine wpAny_bind (wpAny_standAt (wpAny_bind ?_))
  show wpAny _ A (do let _ ← comprehension (.ListComp elt (⟨tgt, iter, ifs, 0⟩ :: rest) scope pos) scope env _ (newList []) false (eval iter env) (some (assign (.Name y py) env))) _ _ _
  obtain ⟨p2, p3⟩ := okC_of hp
  refine wpAny_bind (wpAny_mono (wpAny_comprehension_free (use := some (assign (.Name y py) env)) (Q := Po G fun _ => Q .next) rfl hs (clos_of hcl) p3 p2 (q.thn fun xv h1 t1 q => q.thn fun it h2 t2 q => ?_)) (fun _ s' ⟨h', t', e, z⟩ => wpAny_pure (wpAny_pure ⟨h', t', e, z⟩)) fun _ _ e => e)
  obtain ⟨cl', c1, z⟩ := q.run t2
  have : cl' = cl := by
    have e := c1.symm.trans (clos_of hcl)
    exact (Sem.pure.inj e)
  subst this
  exact z
/-- the end of one that is a value; the end of one that is kept in a local at once -/
theorem post_val {Q : Value → Heap → Prop} {D C : Addr} {oC : Obj} {mC : Mp} {γ'' : Pm} {led' : Led} {h' : Heap} {t : Nat} (hn : h'.Ns C mC) (S' : St G an γ'' L m ((C, oC) :: led') h')
    (fin : ∀ h', St G an γ'' L m led' h' → Q (.ref D) h') : compPost (MD G) A No none (Po G Q) (.ref D) C (.ok .next) (sh G h' t) :=
  ⟨mC, hn, fun h'' hs => ⟨h'', t, rfl, fin h'' (S'.lose hs.extBut)⟩⟩
theorem post_use {sc : Scope} {y : Str} {py : Pos} {Q : Value → Heap → Prop} {D C : Addr} {oC : Obj} {mC : Mp} {γ'' : Pm} {led' : Led} {h' : Heap} {t : Nat} (E : EOk sc env L) (hy : sc.names.lookup y = some .local) (hn : h'.Ns C mC) (S' : St G an γ'' L m ((C, oC) :: led') h')
    (fin : ∀ h', St G an γ'' L (put m y (.ref D)) led' h' → Q .none h') : compPost (MD G) A No (some (assign (.Name y py) env)) (Po G Q) (.ref D) C (.ok .next) (sh G h' t) := by
  show wpAny _ A (assign (.Name y py) env (.ref D)) _ _ _
  refine wpAny_assign_Name (wpAny_mono ((n_store (A := A) (Q := fun _ h2 => St G an γ'' L (put m y (.ref D)) ((C, oC) :: led') h2) S' E (fun h2 z => z) hy).run t) (fun _ s2 ⟨h2, t2, e, S2⟩ => ?_) fun _ _ e => e.elim)
  subst e
  obtain ⟨o0, es0, ep0, e0, r0⟩ := hn
  have e1 : oC = o0 := by have := (S'.nw _ (.head _)).1; rw [e0] at this; cases this; rfl
  exact ⟨mC, ⟨oC, es0, ep0, (S2.nw _ (.head _)).1, e1 ▸ r0⟩, fun h'' hs => ⟨h'', t2, rfl, fin h'' (S2.lose hs.extBut)⟩⟩
end
section
variable {G : Gl} {A : Around} {h : Heap} {env : Env} {an : An} {γ : Pm} {L : Addr} {m : Mp} {led : Led}
theorem letGoName {x : Str} {px : Pos} {it v : Value} {Q : Unit → Heap → Prop} (q : Q () h) : WP G A (letOwnedTupleGo (.Name x px) it v) Q h := WP.of_eq (by rfl) (WP.pure q)
/-- lists in lists laid end to end: [z for x in xs for z in x[1]] -/
theorem lcx_flat {x z : Str} {px pz pz' p1 p2 : Pos} {k1 : Nat} {i1 : Expr} {scope sc : Scope} {pos : Pos} {I : Addr} {n : Nat} {P : Nat → Value → Prop} {Ok : Nat → Obj → Prop} {oI : Obj} {use : Option (Value → Sem Unit)} {Q : Value → Heap → Prop} {p3 : Pos}
    (segs : List (List Value)) (hh : A.handled = none) (E : EOk sc env L) (T : It G A γ I n P Ok) (ok0 : Ok 0 oI) (S : St G an γ L m ((I, oI) :: led) h) (hn : segs.length = n)
    (hP : ∀ i v, P i v → ∃ t a b c e0 vs e, v = .ref t ∧ γ t = some (tu [a, .ref b, c] e0) ∧ γ b = some (lo vs e) ∧ segs[i]? = some vs) (hz : segs.flatten.length ≤ 1000000)
    (hcell : (scope.names.all fun y => y.2 != .cell) = true) (hk : scope.kind = .function) (hx : scope.names.lookup x = some .local) (hzl : scope.names.lookup z = some .local) (hxd : (x == ("__debug__" : Str)) = false) (hzd : (z == ("__debug__" : Str)) = false)
    (hcl : closL env.cells scope.names [] = some [])
    (fin : ∀ D C oC mC k γ'' h' t, Sub γ γ'' → γ'' D = some (lo segs.flatten k) → h'.Ns C mC → St G an γ'' L m ((C, oC) :: led) h' → compPost (MD G) A No use (Po G Q) (.ref D) C (.ok .next) (sh G h' t)) :
    LCX G A env (.ListComp (.Name z pz) [⟨.Name x px, i1, [], 0⟩, ⟨.Name z pz', .Subscript (.Name x p1) (.Constant (.int 1) k1 p2) p3, [], 0⟩] scope pos) scope use Q (.ref I) h := .mk fun tk => by
  refine ⟨[], clos_of hcl, ?_⟩
  refine lcx_core0 (RR := fun acc C => compPost (MD G) A No use (Po G Q) acc C) (sc := sc) (fun ys γ' led' => γ' = γ ∧ led' = led ∧ ys = segs.flatten) E S (fun y hy => by
    have := List.all_eq_true.mp hcell y hy
    simpa using this) hk ?_ ?_
  · intro C D oL mC0 h₁ en E6 hce S1
    have sub : ∀ i, (segs.take i).flatten.length ≤ 1000000 := fun i => by
      have e : segs.flatten.length = (segs.take i).flatten.length + (segs.drop i).flatten.length := by rw [← List.length_append, ← List.flatten_append, List.take_append_drop]
      omega
    refine cd_comp2 (n := n) (fun i h => ∃ mC oI' k, Ok i oI' ∧ St G an γ C mC ((I, oI') :: (L, oL) :: (D, lo (segs.take i).flatten k) :: led) h) (R := fun h2 => ∃ mC ys k γ' led', Sub γ γ' ∧ (γ' = γ ∧ led' = led ∧ ys = segs.flatten) ∧ St G an γ' C mC ((L, oL) :: (D, lo ys k) :: led') h2) ⟨_, oI, 0, ok0, by simpa using S1⟩ (T.self (Sub.refl _) S1 ok0) (fun _ => by rfl) ?_ ?_
    · rintro i h hi ⟨mC, oI', k, ok, S2⟩
      refine (T.step (Sub.refl _) S2 ok hi).mono ?_
      rintro r h1 ⟨v, oI2, rfl, hv, ok2, S3⟩
      refine ⟨v, rfl, letGoName ?_⟩
      refine as_name (n_store S3 E6 ?_ (relb_local hx))
      intro h2 S4
      obtain ⟨t, a, b, c, e0, vs, e, rfl, ht, hb, hseg⟩ := hP i v hv
      refine e_Sub (n_loc S4 E6 put_self ?_ (relb_local hx) hxd)
      refine e_int ?_
      intro tk1
      refine i_tup (S4.get ht) (by first | decide | omega) (by first | decide | omega) (j := 1) (by rfl) rfl ?_ sub_const
      refine it_list S4 (S4.get hb) ?_
      intro I2 oI3 h3 ok3 S5
      have T2 : It G A γ I2 vs.length (fun i v => vs[i]? = some v) (OkL b) := It.list hh hb
      have tk1 : segs.take (i + 1) = segs.take i ++ [vs] := by rw [List.take_add_one, hseg]; rfl
      have hle := sub (i + 1)
      rw [tk1, List.flatten_append, List.length_append] at hle
      simp only [List.flatten_cons, List.flatten_nil, List.append_nil] at hle
      refine cd_comp2b (n := vs.length) (fun j h => ∃ mC oI' k, OkL b j oI' ∧ St G an γ C mC ((I2, oI') :: (I, oI2) :: (L, oL) :: (D, lo ((segs.take i).flatten ++ vs.take j) k) :: led) h) ⟨_, oI3, k, ok3, by simpa using S5⟩ (T2.self (Sub.refl _) S5 ok3) ?_ ?_
      · rintro j h hj ⟨mC, oI4, k, ok4, S6⟩
        refine (T2.step (Sub.refl _) S6 ok4 hj).mono ?_
        rintro r h1 ⟨w, oI5, rfl, hw, ok5, S7⟩
        refine ⟨w, rfl, letGoName ?_⟩
        refine as_name (n_store S7 E6 ?_ (relb_local hzl))
        intro h2 S8
        refine n_loc S8 E6 put_self ?_ (relb_local hzl) hzd
        refine l_append S8 (.tail (.tail (.tail .head))) (by rw [List.length_append]; have := List.length_take_le j vs; omega) ?_
        intro h' S9
        have e : vs.take (j + 1) = vs.take j ++ [w] := by rw [List.take_add_one, hw]; rfl
        rw [List.append_assoc, ← e] at S9
        exact ⟨_, oI5, _, ok5, S9⟩
      · rintro h ⟨mC, oI4, k, ok4, S6⟩
        refine (T2.done (Sub.refl _) S6 ok4).mono ?_
        rintro r h1 ⟨rfl, S7⟩
        refine ⟨rfl, mC, oI2, k, ok2, ?_⟩
        rw [tk1, List.flatten_append]
        simpa using S7
    · rintro h ⟨mC, oI', k, ok, S2⟩
      refine (T.done (Sub.refl _) S2 ok).mono ?_
      rintro r h1 ⟨rfl, S3⟩
      refine ⟨rfl, mC, _, k, γ, led, Sub.refl _, ⟨rfl, rfl, ?_⟩, S3⟩
      rw [← hn, List.take_length]
  · rintro D C oC mC ys k γ' γ'' led' h' t s1 s2 ⟨rfl, rfl, rfl⟩ hD hn S'
    exact fin D C oC mC k γ'' h' t s2 hD hn S'
/-- one clause, its name in a cell -/
theorem lcx_cell {elt iter : Expr} {y : Str} {py : Pos} {scope sc : Scope} {cl : List (Str × Addr)} {pos : Pos} {I : Addr} {n : Nat} {P : Nat → Value → Prop} {Ok : Nat → Obj → Prop} {oI : Obj} {use : Option (Value → Sem Unit)} {Q : Value → Heap → Prop}
    (J : Nat → List Value → Pm → Led → Prop) (E : EOk sc env L) (T : It G A γ I n P Ok) (ok0 : Ok 0 oI) (S : St G an γ L m ((I, oI) :: led) h) (j0 : J 0 [] γ led) (hz : n ≤ 16000000)
    (hcl : closL env.cells scope.names [] = some cl) (hcs : ∀ N, cellsFrom N scope.names cl = (y, N) :: cl) (hps : ∀ h, pushCells h scope.names = h.push cellO) (hk : scope.kind = .function) (hy : (relb scope sc).names.lookup y = some .cell)
    (turn : ∀ i ys v γ' led' h' C mC I oI oL D K oK k en, i < n → P i v → ys.length = i → Sub γ γ' → J i ys γ' led' → EOk (relb scope sc) en C → en.cells = (y, K) :: cl → oK.data = .cell (some v) →
      St G an γ' C mC ((K, oK) :: (I, oI) :: (L, oL) :: (D, lo ys k) :: led') h' →
      WP G A (eval elt en) (fun z h2 => ∃ γ2 led2 mC2, Sub γ' γ2 ∧ J (i + 1) (ys ++ [z]) γ2 led2 ∧ St G an γ2 C mC2 ((K, oK) :: (I, oI) :: (L, oL) :: (D, lo ys k) :: led2) h2) h')
    (fin : ∀ D C oC mC ys k γ' γ'' led' h' t, ys.length = n → Sub γ γ' → Sub γ' γ'' → J n ys γ' led' → γ'' D = some (lo ys k) → h'.Ns C mC → St G an γ'' L m ((C, oC) :: led') h' → compPost (MD G) A No use (Po G Q) (.ref D) C (.ok .next) (sh G h' t)) :
    LCX G A env (.ListComp elt [⟨.Name y py, iter, [], 0⟩] scope pos) scope use Q (.ref I) h := .mk fun tk => by
  refine ⟨cl, clos_of hcl, ?_⟩
  refine lcx_core1 (RR := fun acc C => compPost (MD G) A No use (Po G Q) acc C) (fun ys γ' led' => ys.length = n ∧ J n ys γ' led') E S hcs hps hk ?_ ?_
  · intro C D K oL mC0 h₁ en E6 hce hK S1
    refine cd_comp1 (n := n) (fun i h => ∃ mC oI' oK vo ys k γ' led', ys.length = i ∧ Sub γ γ' ∧ J i ys γ' led' ∧ Ok i oI' ∧ oK.data = .cell vo ∧ St G an γ' C mC ((K, oK) :: (I, oI') :: (L, oL) :: (D, lo ys k) :: led') h) ⟨_, oI, cellO, none, [], 0, γ, led, rfl, Sub.refl _, j0, ok0, rfl, S1⟩ (T.self (Sub.refl _) (S1.perm (List.Perm.swap _ _ _)) ok0) ?_ ?_
    · rintro i h hi ⟨mC, oI', oK, vo, ys, k, γ', led', hl, s', j, ok, hd, S2⟩
      refine (T.step s' (S2.perm (List.Perm.swap _ _ _)) ok hi).mono ?_
      rintro r h1 ⟨v, oI2, rfl, hv, ok2, S3⟩
      refine ⟨v, rfl, letGoName ?_⟩
      have S3 := S3.perm (List.Perm.swap _ _ _)
      refine as_name (l_cell (c := K) S3 E6 (by rw [hce]; exact lk_head) (fun _ => .head) hd ?_ hy)
      intro oK2 h2 hd2 S4
      refine (turn i ys v γ' led' h2 C mC I oI2 oL D K oK2 k en hi hv hl s' j E6 hce hd2 S4).mono ?_
      rintro z h3 ⟨γ2, led2, mC2, s2, j2, S5⟩
      refine l_append S5 (.tail (.tail (.tail .head))) (by first | decide | omega) ?_
      intro h4 S6
      exact ⟨_, oI2, oK2, _, ys ++ [z], _, γ2, led2, by simp [hl], s'.trans s2, j2, ok2, hd2, S6⟩
    · rintro h ⟨mC, oI', oK, vo, ys, k, γ', led', hl, s', j, ok, hd, S2⟩
      refine (T.done s' (S2.perm (List.Perm.swap _ _ _)) ok).mono ?_
      rintro r h1 ⟨rfl, S3⟩
      exact ⟨rfl, mC, ys, k, γ', led', s', ⟨hl, j⟩, S3.drop⟩
  · rintro D C oC mC ys k γ' γ'' led' h' t s1 s2 ⟨hl, j⟩ hD hn S'
    exact fin D C oC mC ys k γ' γ'' led' h' t hl s1 s2 j hD hn S'
end
def RopeO (G : Gl) (o : Obj) (aC : Addr) (k : Int) : Prop := ∃ tk, o.IsDictOf (Skd G) [(Str.ofString "cells", .ref aC), (Str.ofString "knot", .int k tk)]
theorem next_ok {G : Gl} {A : Around} {h : Heap} {γ : Pm} {n : Nat} (D : Gd G) (hr : Room A (n + 1)) {aR aC : Addr} {oR : Obj} {rest : Led} {k many : Int} {vs : List Value} {e : Nat} {ns : List Int} {tm : Tok} {R : Value → Heap → Prop}
    (T : Sit G γ ((aR, oR) :: rest) h) (hR : RopeO G oR aC k) (hC : γ aC = some (lo vs e)) (hI : IntsAre vs ns) (hl : vs.length ≤ 63) (h0 : 0 ≤ k) (hm : 0 < many)
    (fin : ∀ i t oR' γ' h', 0 ≤ i → i < many → RopeO G oR' aC (k + 1) → Post γ h (((aR, oR) :: rest).map (·.1)) γ' h' → (∀ p ∈ (aR, oR') :: rest, h'.get? p.1 = some p.2) → R (.int i t) h') :
    CD G A (.call (.ref 631) ⟨[.ref aR, .int many tm], []⟩) (Ret R) h := by
  obtain ⟨tk, hR⟩ := hR
  refine call_def D T hr (st := topAt 26) (nm := Str.ofString "_law_next") (ql := Str.ofString "_law_next") (pm := Value.str (Str.ofString "law_qz0017_01") 1020) (cd := .ref 630) (binds := [(Str.ofString "rope", .ref aR), (Str.ofString "many", .int many tm)]) (by kernel_rfl) (by kernel_rfl) (by kernel_rfl) (by decide +kernel) (locs (by kernel_rfl)) (by kernel_rfl) (by kernel_rfl) (by kernel_rfl) ?_
  intro an L h₁ en A' E hr' post S
  generalize hb : fBod (topAt 26) = b
  conv at hb => lhs; whnf
  subst hb
  simp only [puts, List.foldl] at S
  refine x_seq ?_; intro K kn kr
  wtm_at "gos"
  refine set_dicts S (.head _) hR (small (by simp)) ?_
  intro oR' h₂ hR' S₂
  clear S
  rw [chg_head T.nd] at S₂
  simp [stored, (sne (by decide) : Str.ofString "cells" ≠ Str.ofString "knot")] at hR'
  refine kn _ ?_
  clear kn kr K
  have fin' : ∀ (i : Int) (t : Tok), 0 ≤ i → i < many → R (.int i t) h₂ := fun i t a b => fin i t oR' γ h₂ a b ⟨_, hR'⟩ (post _ _ _ _ S₂) fun p hp => (S₂.nw p hp).1
  refine x_seq ?_; intro K kn kr
  wtm_at "gos"
  refine n_bi (v := .builtin "len") (by assumption) (by assumption) (by assumption) (ns_len _) (by kernel_rfl) (sne (by decide)) ?_ (by kernel_rfl) (by kernel_rfl)
  refine cw_B (by rfl) ?_ (by rfl) (by rfl)
  wtm_at "gos"
  refine c_len (S₂.get hC) (by first | decide | omega) ?_
  intro _
  wtm_at "gos"
  split
  next hle =>
    have hle := of_decide_eq_true hle
    refine x_seq ?_; intro K2 kn2 kr2
    wtm_at "gos"
    obtain ⟨x, t, hx⟩ := ints_at hI (i := (k + 1 - 1).toNat) (by first | decide | omega)
    refine i_list (S₂.get hC) (by first | decide | omega) (by first | decide | omega) hx ?_ sub_bin
    wtm_at "gos"
    refine o_mod (by first | decide | omega) ?_
    intro _
    refine kr2 _ _ (kr _ _ ?_)
    exact fin' _ _ (fmod_lo _ hm) (fmod_hi _ hm)
  next =>
    wtm_at "gos"
    refine kn _ ?_
    refine x_seq ?_; intro K3 kn3 kr3
    wtm_at "gos"
    refine o_mul (PySem.IntMulOk.of_right (PySem.intBits_le_64 (by first | decide | omega) (by first | decide | omega))) ?_
    intro _
    wtm_at "gos"
    refine o_fdiv (by first | decide | omega) (PyProof.noPylong_of_log2 (by decide +kernel)) ?_
    intro _
    wtm_at "gos"
    refine o_mul (PySem.IntMulOk.of_right (PySem.intBits_le_64 (by first | decide | omega) (by first | decide | omega))) ?_
    intro _
    wtm_at "gos"
    refine o_mod (by first | decide | omega) ?_
    intro _
    wtm_at "gos"
    refine o_mod (by first | decide | omega) ?_
    intro _
    refine kr3 _ _ ?_
    exact fin' _ _ (fmod_lo _ hm) (fmod_hi _ hm)
theorem make_ok {G : Gl} {A : Around} {h : Heap} {γ : Pm} {n : Nat} (D : Gd G) (hr : Room A (n + 2)) {c : BC} {rest : List (Str × Value)} {o : BO} {B : List TKey} {cs : Led} {op : Str} {args : List Int} {data : Int} {a : Addr} {t1 t3 t4 : Tok} {R : Value → Heap → Prop}
    (I : Ins G γ c.b 622 (bkv c rest)) (H : BR G γ o B) (T : Sit G γ (bcs c o ++ cs) h) (ha : TupI γ a args) (hB : B.length ≤ 1000000) (h0 : 0 < B.length) (hs : (c.a5 == sysModules) = false)
    (fin : ∀ i t o' B' γ' h', Made B ⟨op, args, data⟩ i B' → BR G γ' o' B' → Post γ h ((bcs c o ++ cs).map (·.1)) γ' h' → (∀ p ∈ bcs c o' ++ cs, h'.get? p.1 = some p.2) → R (.int (i : Nat) t) h') :
    CD G A (.call (.ref 451) ⟨[.ref c.b, .str op t1, .ref a, .int 0 t3, .int data t4], []⟩) (Ret R) h := by
  refine call_def D T hr (st := metAt 23 19) (nm := Str.ofString "make") (ql := Str.ofString "Bank.make") (pm := (Value.str (Str.ofString "minismt.terms") 598)) (cd := .ref 450) (binds := [(Str.ofString "self", .ref c.b), (Str.ofString "op", .str op t1), (Str.ofString "args", .ref a), (Str.ofString "sort", .int 0 t3), (Str.ofString "data", .int data t4)]) (by kernel_rfl) (by kernel_rfl) (by kernel_rfl) (by decide +kernel) (locs (by kernel_rfl)) (by kernel_rfl) (by kernel_rfl) (by kernel_rfl) ?_
  intro an L h₁ en A' E hr' post S
  generalize hb : fBod (metAt 23 19) = b
  conv at hb => lhs; whnf
  subst hb
  simp only [puts, List.foldl] at S
  obtain ⟨o1, o2, o3, o4, o5⟩ := o
  obtain ⟨⟨vs1, e1, q1, l1, r1⟩, ⟨vs2, e2, q2, l2, r2⟩, ⟨vs3, e3, q3, l3, r3⟩, ⟨vs4, e4, q4, l4⟩, xs, hT, x1, x2, x3⟩ := H
  simp only at q1 q2 q3 q4 hT
  subst q1 q2 q3 q4
  simp only [bcs, List.cons_append, List.nil_append] at S
  refine x_seq ?_; intro K1 kn1 kr1
  wtm_at "gos"
  refine ⟨small (by simp), ?_⟩
  have s1 := Sub.ins (o := tu [.str op t1, .ref a, .int 0 t3, .int data t4] 0) S.size_none
  have hk : KeyAt (ins γ _ (tu [.str op t1, .ref a, .int 0 t3, .int data t4] 0)) ⟨op, args, data⟩ _ := ⟨t1, a, t3, t4, 0, ins_self (a := h₁.objs.size), ha.sub s1⟩
  have S := S.made (tu [.str op t1, .ref a, .int 0 t3, .int data t4] 0) rfl
  generalize ins γ h₁.objs.size (tu [.str op t1, .ref a, .int 0 t3, .int data t4] 0) = γ₁ at s1 hk S
  generalize h₁.objs.size = ak at hk ⊢
  have I := I.sub s1
  have hT := hT.sub s1
  have r2 : ∀ (i : Nat) (k : TKey), B[i]? = some k → ∃ a, vs2[i]? = some (Value.ref a) ∧ TupI γ₁ a k.args := fun i k q => let ⟨x, y, z⟩ := r2 i k q; ⟨x, y, z.sub s1⟩
  have ha := ha.sub s1
  refine n_store (by assumption) E ?_ (by kernel_rfl); intro _ S
  refine kn1 _ ?_; clear kn1 kr1 K1
  refine x_seq ?_; intro K2 kn2 kr2
  wtm_at "gos"
  refine dm_get (S.led_get (by wtm_at "mem")) hT.1 ?_
  refine cw_B (by rfl) ?_ (by rfl) (by rfl)
  wtm_at "gos"
  refine c_tget D hr' S (S.led_get (by wtm_at "mem")) hT hk hs ?_
  have fin' : ∀ (i : Nat) (t : Tok), (((atKey xs ⟨op, args, data⟩).map (·.2)).getD (.int 0 t)) = .int 0 t ∨ True := fun _ _ => .inr trivial
  clear fin'
  cases hq : atKey xs ⟨op, args, data⟩ with
  | some pv =>
    obtain ⟨p, v⟩ := pv
    have hmem : (⟨op, args, data⟩, p, v) ∈ xs := by
      unfold atKey at hq
      obtain ⟨y, hy, e⟩ := Option.map_eq_some_iff.mp hq
      have := List.find?_some hy
      have hm := List.mem_of_find?_eq_some hy
      obtain ⟨y1, y2⟩ := y
      simp only [decide_eq_true_eq] at this e
      subst this e; exact hm
    obtain ⟨i, ti, hi, rfl, hBi⟩ := x1 _ _ _ hmem
    simp only [Option.map_some, Option.getD_some]
    refine n_store (by assumption) E ?_ (by kernel_rfl); intro _ S
    refine kn2 _ ?_; clear kn2 kr2 K2
    refine x_seq ?_; intro K3 kn3 kr3
    wtm_at "gos"
    rw [if_neg (by simp; omega)]
    wtm_at "gos"
    refine kn3 _ ?_; clear kn3 kr3 K3
    refine x_seq ?_; intro K4 kn4 kr4
    wtm_at "gos"
    refine kr4 _ _ ?_
    exact fin i ti ⟨lo vs1 e1, lo vs2 e2, lo vs3 e3, lo vs4 e4, o5⟩ B γ₁ _ ⟨hi, hBi, .inl rfl⟩ ((BR.mk ⟨vs1, e1, rfl, l1, r1⟩ ⟨vs2, e2, rfl, l2, r2⟩ ⟨vs3, e3, rfl, l3, r3⟩ ⟨vs4, e4, rfl, l4⟩ ⟨xs, by assumption, x1, x2, x3⟩ : BR G γ₁ ⟨lo vs1 e1, lo vs2 e2, lo vs3 e3, lo vs4 e4, o5⟩ B)) (post _ _ _ _ S) fun p hp => (S.nw p hp).1
  | none =>
    simp only [Option.map_none, Option.getD_none]
    refine n_store (by assumption) E ?_ (by kernel_rfl); intro _ S
    refine kn2 _ ?_; clear kn2 kr2 K2
    refine x_seq ?_; intro K3 kn3 kr3
    wtm_at "gos"
    rw [if_pos (by simp)]
    refine x_seq ?_; intro K4 kn4 kr4
    wtm_at "gos"
    refine n_bi (v := .builtin "len") (by assumption) (by assumption) (by assumption) (ns_len _) (by kernel_rfl) (sne (by decide)) ?_ (by kernel_rfl) (by kernel_rfl)
    refine cw_B (by rfl) ?_ (by rfl) (by rfl)
    wtm_at "gos"
    refine c_len1 (S.led_get (by wtm_at "mem")) (by first | decide | omega) ?_
    intro tf
    wtm_at "gos"
    rw [l1]
    refine n_store (by assumption) E ?_ (by kernel_rfl); intro _ S
    refine kn4 _ ?_; clear kn4 kr4 K4
    refine x_seq ?_; intro K5 kn5 kr5
    wtm_at "gos"
    refine lm_append (by wtm_at "at") ?_; refine cw_B (by rfl) ?_ (by rfl) (by rfl)
    wtm_at "gos"
    refine l_append S (by wtm_at "u") (by first | decide | omega) ?_
    intro _ S
    refine ⟨rfl, ?_⟩
    refine kn5 _ ?_; clear kn5 kr5 K5
    refine x_seq ?_; intro K6 kn6 kr6
    wtm_at "gos"
    refine lm_append (by wtm_at "at") ?_; refine cw_B (by rfl) ?_ (by rfl) (by rfl)
    wtm_at "gos"
    refine l_append S (by wtm_at "u") (by first | decide | omega) ?_
    intro _ S
    refine ⟨rfl, ?_⟩
    refine kn6 _ ?_; clear kn6 kr6 K6
    refine x_seq ?_; intro K7 kn7 kr7
    wtm_at "gos"
    refine lm_append (by wtm_at "at") ?_; refine cw_B (by rfl) ?_ (by rfl) (by rfl)
    wtm_at "gos"
    refine l_append S (by wtm_at "u") (by first | decide | omega) ?_
    intro _ S
    refine ⟨rfl, ?_⟩
    refine kn7 _ ?_; clear kn7 kr7 K7
    refine x_seq ?_; intro K8 kn8 kr8
    wtm_at "gos"
    refine lm_append (by wtm_at "at") ?_; refine cw_B (by rfl) ?_ (by rfl) (by rfl)
    wtm_at "gos"
    refine l_append S (by wtm_at "u") (by first | decide | omega) ?_
    intro _ S
    refine ⟨rfl, ?_⟩
    refine kn8 _ ?_; clear kn8 kr8 K8
    refine x_seq ?_; intro K9 kn9 kr9
    wtm_at "gos"
    refine l_tset hr' S (fun _ => by wtm_at "u") hT hk hq (by first | decide | omega) ?_
    intro o5' _ hT' S
    refine kn9 _ ?_; clear kn9 kr9 K9
    refine x_nil ?_
    refine kn3 _ ?_; clear kn3 kr3 K3
    refine x_seq ?_; intro K10 kn10 kr10
    wtm_at "gos"
    refine kr10 _ _ ?_
    refine fin B.length tf ⟨lo (vs1 ++ [Value.str op t1]) (e1 + 1), lo (vs2 ++ [Value.ref a]) (e2 + 1), lo (vs3 ++ [Value.int 0 t3]) (e3 + 1), lo (vs4 ++ [Value.int data t4]) (e4 + 1), o5'⟩ (B ++ [⟨op, args, data⟩]) γ₁ _ ⟨h0, by simp, .inr ⟨rfl, rfl⟩⟩ ?_ (post _ _ _ _ S) fun p hp => (S.nw p hp).1
    refine ⟨⟨_, _, rfl, by simp [l1], fun i k q => ?_⟩, ⟨_, _, rfl, by simp [l2], fun i k q => ?_⟩, ⟨_, _, rfl, by simp [l3], fun i k q => ?_⟩, ⟨_, _, rfl, by simp [l4]⟩, ⟨_, hT', fun k p v hm => ?_, fun i k hi q => ?_, by simp [x3]⟩⟩
    · rcases get_snoc q with q | ⟨rfl, rfl⟩
      · obtain ⟨t, e⟩ := r1 i k q; exact ⟨t, pre_get (List.prefix_append ..) e⟩
      · exact ⟨t1, by rw [← l1]; simp⟩
    · rcases get_snoc q with q | ⟨rfl, rfl⟩
      · obtain ⟨t, e, z⟩ := r2 i k q; exact ⟨t, pre_get (List.prefix_append ..) e, z⟩
      · exact ⟨a, by rw [← l2]; simp, ha⟩
    · rcases get_snoc q with q | ⟨rfl, rfl⟩
      · obtain ⟨t, e⟩ := r3 i k q; exact ⟨t, pre_get (List.prefix_append ..) e⟩
      · exact ⟨t3, by rw [← l3]; simp⟩
    · rcases List.mem_append.mp hm with hm | hm
      · obtain ⟨i, t, hi, hv, e⟩ := x1 _ _ _ hm; exact ⟨i, t, hi, hv, pre_get (List.prefix_append ..) e⟩
      · rw [List.mem_singleton] at hm
        simp only [Prod.mk.injEq] at hm
        obtain ⟨rfl, rfl, rfl⟩ := hm
        exact ⟨B.length, tf, h0, rfl, by simp⟩
    · rcases get_snoc q with q | ⟨rfl, rfl⟩
      · obtain ⟨p, t, e⟩ := x2 i k hi q
        refine ⟨p, t, ?_⟩
        unfold atKey at e ⊢
        rw [List.find?_append]
        obtain ⟨y, hy, ey⟩ := Option.map_eq_some_iff.mp e
        rw [hy]; simp [ey]
      · refine ⟨ak, tf, ?_⟩
        unfold atKey at hq ⊢
        rw [List.find?_append, Option.map_eq_none_iff.mp hq]; simp
theorem op_ok {G : Gl} {A : Around} {h : Heap} {γ : Pm} {n : Nat} (D : Gd G) {c : BC} {rest : List (Str × Value)} {o : BO} {B : List TKey} {cs : Led} {R : Value → Heap → Prop} (hr : Room A (n + 1)) (I : Ins G γ c.b 622 (bkv c rest)) (H : BR G γ o B) (T : Sit G γ (bcs c o ++ cs) h) (hB : B.length ≤ 1000000) {i : Nat} {k : TKey} {t : Tok} (hk : B[i]? = some k)
    (fin : ∀ t γ' h', Same γ h (bcs c o ++ cs) γ' h' → R (.str k.op t) h') : CD G A (.call (.ref 409) ⟨[.ref c.b, .int (i : Nat) t], []⟩) (Ret R) h := by
  refine call_def D T hr (st := metAt 23 13) (nm := Str.ofString "op") (ql := Str.ofString "Bank.op") (pm := (Value.str (Str.ofString "minismt.terms") 598)) (cd := .ref 408) (binds := [(Str.ofString "self", .ref c.b), (Str.ofString "t", .int (i : Nat) t)]) (by kernel_rfl) (by kernel_rfl) (by kernel_rfl) (by decide +kernel) (locs (by kernel_rfl)) (by kernel_rfl) (by kernel_rfl) (by kernel_rfl) ?_
  intro an L h₁ en A' E hr' post S
  generalize hb : fBod (metAt 23 13) = b
  conv at hb => lhs; whnf
  subst hb
  simp only [puts, List.foldl] at S
  obtain ⟨vs, e, q, l, r⟩ := H.l1
  obtain ⟨o1, o2, o3, o4, o5⟩ := o
  simp only at q
  subst q
  have S2 := S
  simp only [bcs, List.cons_append, List.nil_append] at S
  refine x_seq ?_; intro K1 kn1 kr1
  wtm_at "gos"
  obtain ⟨t, hv⟩ := r i k hk
  have hi : i < B.length := by
    by_cases z : i < B.length
    · exact z
    · rw [List.getElem?_eq_none (by first | decide | omega)] at hk; cases hk
  refine i_list (S.led_get (by wtm_at "mem")) (by first | decide | omega) (by first | decide | omega) (by simpa using hv) ?_ sub_name
  refine kr1 _ _ ?_
  exact fin t _ _ ⟨post _ _ _ _ S2, fun p hp => (S2.nw p hp).1⟩

theorem args_ok {G : Gl} {A : Around} {h : Heap} {γ : Pm} {n : Nat} (D : Gd G) {c : BC} {rest : List (Str × Value)} {o : BO} {B : List TKey} {cs : Led} {R : Value → Heap → Prop} (hr : Room A (n + 1)) (I : Ins G γ c.b 622 (bkv c rest)) (H : BR G γ o B) (T : Sit G γ (bcs c o ++ cs) h) (hB : B.length ≤ 1000000) {i : Nat} {k : TKey} {t : Tok} (hk : B[i]? = some k)
    (fin : ∀ a γ' h', TupI γ a k.args → Same γ h (bcs c o ++ cs) γ' h' → R (.ref a) h') : CD G A (.call (.ref 416) ⟨[.ref c.b, .int (i : Nat) t], []⟩) (Ret R) h := by
  refine call_def D T hr (st := metAt 23 14) (nm := Str.ofString "args") (ql := Str.ofString "Bank.args") (pm := (Value.str (Str.ofString "minismt.terms") 598)) (cd := .ref 415) (binds := [(Str.ofString "self", .ref c.b), (Str.ofString "t", .int (i : Nat) t)]) (by kernel_rfl) (by kernel_rfl) (by kernel_rfl) (by decide +kernel) (locs (by kernel_rfl)) (by kernel_rfl) (by kernel_rfl) (by kernel_rfl) ?_
  intro an L h₁ en A' E hr' post S
  generalize hb : fBod (metAt 23 14) = b
  conv at hb => lhs; whnf
  subst hb
  simp only [puts, List.foldl] at S
  obtain ⟨vs, e, q, l, r⟩ := H.l2
  obtain ⟨o1, o2, o3, o4, o5⟩ := o
  simp only at q
  subst q
  have S2 := S
  simp only [bcs, List.cons_append, List.nil_append] at S
  refine x_seq ?_; intro K1 kn1 kr1
  wtm_at "gos"
  obtain ⟨a, hv, hz⟩ := r i k hk
  have hi : i < B.length := by
    by_cases z : i < B.length
    · exact z
    · rw [List.getElem?_eq_none (by first | decide | omega)] at hk; cases hk
  refine i_list (S.led_get (by wtm_at "mem")) (by first | decide | omega) (by first | decide | omega) (by simpa using hv) ?_ sub_name
  refine kr1 _ _ ?_
  exact fin a _ _ hz ⟨post _ _ _ _ S2, fun p hp => (S2.nw p hp).1⟩

theorem bsize_ok {G : Gl} {A : Around} {h : Heap} {γ : Pm} {n : Nat} (D : Gd G) {c : BC} {rest : List (Str × Value)} {o : BO} {B : List TKey} {cs : Led} {R : Value → Heap → Prop} (hr : Room A (n + 1)) (I : Ins G γ c.b 622 (bkv c rest)) (H : BR G γ o B) (T : Sit G γ (bcs c o ++ cs) h) (hB : B.length ≤ 1000000)
    (fin : ∀ t γ' h', Same γ h (bcs c o ++ cs) γ' h' → R (.int ((B.length : Int) - 1) t) h') : CD G A (.call (.ref 444) ⟨[.ref c.b], []⟩) (Ret R) h := by
  refine call_def D T hr (st := metAt 23 18) (nm := Str.ofString "size") (ql := Str.ofString "Bank.size") (pm := (Value.str (Str.ofString "minismt.terms") 598)) (cd := .ref 443) (binds := [(Str.ofString "self", .ref c.b)]) (by kernel_rfl) (by kernel_rfl) (by kernel_rfl) (by decide +kernel) (locs (by kernel_rfl)) (by kernel_rfl) (by kernel_rfl) (by kernel_rfl) ?_
  intro an L h₁ en A' E hr' post S
  generalize hb : fBod (metAt 23 18) = b
  conv at hb => lhs; whnf
  subst hb
  simp only [puts, List.foldl] at S
  obtain ⟨vs, e, q, l, r⟩ := H.l1
  obtain ⟨o1, o2, o3, o4, o5⟩ := o
  simp only at q
  subst q
  have S2 := S
  simp only [bcs, List.cons_append, List.nil_append] at S
  refine x_seq ?_; intro K1 kn1 kr1
  wtm_at "gos"
  refine n_bi (v := .builtin "len") (by assumption) (by assumption) (by assumption) (ns_len _) (by kernel_rfl) (sne (by decide)) ?_ (by kernel_rfl) (by kernel_rfl)
  refine cw_B (by rfl) ?_ (by rfl) (by rfl)
  wtm_at "gos"
  refine c_len1 (S.led_get (by wtm_at "mem")) (by first | decide | omega) ?_
  intro tf
  wtm_at "gos"
  refine kr1 _ _ ?_
  rw [l]
  exact fin _ _ _ ⟨post _ _ _ _ S2, fun p hp => (S2.nw p hp).1⟩
theorem want_ok {G : Gl} {A : Around} {h : Heap} {γ : Pm} {n : Nat} (D : Gd G) {c : BC} {rest : List (Str × Value)} {o : BO} {B : List TKey} {cs : Led} {R : Value → Heap → Prop} (hr : Room A (n + 1)) (I : Ins G γ c.b 622 (bkv c rest)) (H : BR G γ o B) (T : Sit G γ (bcs c o ++ cs) h) (hB : B.length ≤ 1000000) {i : Nat} {k : TKey} {t t2 t3 : Tok} {x : Str} (hk : B[i]? = some k)
    (fin : ∀ γ' h', Same γ h (bcs c o ++ cs) γ' h' → R .none h') : CD G A (.call (.ref 472) ⟨[.ref c.b, .int (i : Nat) t, .int 0 t2, .str x t3], []⟩) (Ret R) h := by
  refine call_def D T hr (st := metAt 23 22) (nm := Str.ofString "want") (ql := Str.ofString "Bank.want") (pm := (Value.str (Str.ofString "minismt.terms") 598)) (cd := .ref 471) (binds := [(Str.ofString "self", .ref c.b), (Str.ofString "t", .int (i : Nat) t), (Str.ofString "s", .int 0 t2), (Str.ofString "where", .str x t3)]) (by kernel_rfl) (by kernel_rfl) (by kernel_rfl) (by decide +kernel) (locs (by kernel_rfl)) (by kernel_rfl) (by kernel_rfl) (by kernel_rfl) ?_
  intro an L h₁ en A' E hr' post S
  generalize hb : fBod (metAt 23 22) = b
  conv at hb => lhs; whnf
  subst hb
  simp only [puts, List.foldl] at S
  obtain ⟨vs, e, q, l, r⟩ := H.l3
  obtain ⟨o1, o2, o3, o4, o5⟩ := o
  simp only at q
  subst q
  have S2 := S
  simp only [bcs, List.cons_append, List.nil_append] at S
  refine x_seq ?_; intro K1 kn1 kr1
  wtm_at "gos"
  obtain ⟨tv, hv⟩ := r i k hk
  have hi : i < B.length := by
    by_cases z : i < B.length
    · exact z
    · rw [List.getElem?_eq_none (by first | decide | omega)] at hk; cases hk
  refine i_list (S.led_get (by wtm_at "mem")) (by first | decide | omega) (by first | decide | omega) (by simpa using hv) ?_ sub_name
  wtm_at "gos"
  rw [if_neg (by simp)]
  wtm_at "gos"
  refine kn1 _ ?_; clear kn1 kr1 K1
  wtm_at "gos"
  exact fin _ _ ⟨post _ _ _ _ S2, fun p hp => (S2.nw p hp).1⟩
theorem want_all_ok {G : Gl} {A : Around} {h : Heap} {γ : Pm} {n : Nat} (D : Gd G) {c : BC} {q1 q2 : Tok} {o : BO} {B : List TKey} {cs : Led} {R : Value → Heap → Prop} (hr : Room A (n + 2)) (I : Ins G γ c.b 622 (bkv c (bful q1 q2))) (H : BR G γ o B) (T : Sit G γ (bcs c o ++ cs) h) (hB : B.length ≤ 1000000) {a : Addr} {vs : List Value} {ns : List Nat} {t2 t3 : Tok} {x : Str} (ha : SeqO γ a vs) (hv : Nats vs ns) (hn : ∀ i ∈ ns, ∃ k, B[i]? = some k)
    (fin : ∀ γ' h', Same γ h (bcs c o ++ cs) γ' h' → R .none h') : CD G A (.call (.ref 479) ⟨[.ref c.b, .ref a, .int 0 t2, .str x t3], []⟩) (Ret R) h := by
  refine call_def D T hr (st := metAt 23 23) (nm := Str.ofString "want_all") (ql := Str.ofString "Bank.want_all") (pm := (Value.str (Str.ofString "minismt.terms") 598)) (cd := .ref 478) (binds := [(Str.ofString "self", .ref c.b), (Str.ofString "some", .ref a), (Str.ofString "s", .int 0 t2), (Str.ofString "where", .str x t3)]) (by kernel_rfl) (by kernel_rfl) (by kernel_rfl) (by decide +kernel) (locs (by kernel_rfl)) (by kernel_rfl) (by kernel_rfl) (by kernel_rfl) ?_
  intro an L h₁ en A' E hr' post S
  generalize hb : fBod (metAt 23 23) = b
  conv at hb => lhs; whnf
  subst hb
  simp only [puts, List.foldl] at S
  refine x_seq ?_; intro K1 kn1 kr1
  refine x_For ?_ (by intro _; rfl)
  wtm_at "gos"
  refine it_seq hr'.h S ha ?_
  intro it oI Ok h₂ T2 ok S2
  refine cd_for E T2 ok S2 (fun _ _ m' led' => led' = bcs c o ++ cs ∧ m' (Str.ofString "self") = some (.ref c.b) ∧ m' (Str.ofString "s") = some (.int 0 t2) ∧ m' (Str.ofString "where") = some (.str x t3)) ⟨rfl, by wtm_at "lk", by wtm_at "lk", by wtm_at "lk"⟩ ?_ ?_ (by kernel_rfl)
  · rintro i v γ' m' led' oI' h' hi hvi s' ⟨rfl, m1, m2, m3⟩ S'
    refine x_seq ?_; intro K2 kn2 kr2
    wtm_at "gos"
    refine m_get (f := 472) D S' (I.sub s') (by kernel_rfl) (by kernel_rfl) ?_
    refine cw_K D (by kernel_rfl) ?_ (by rfl) (by rfl)
    obtain ⟨k, tk, hk, rfl⟩ := hv.get hvi
    wtm_at "gos"
    refine ⟨S'.kin D, ?_⟩
    obtain ⟨kk, hkk⟩ := hn k (List.mem_of_getElem? hk)
    refine wp_call (want_ok D hr' (I.sub s') (H.sub s') (S'.sit (xs := [(it, oI')]) (cs := bcs c o ++ cs)) hB hkk ?_)
    intro γ2 h2 sm
    have S2 := S'.same (xs := [(it, oI')]) (cs := bcs c o ++ cs) sm
    refine ⟨rfl, ?_⟩
    refine kn2 _ ?_; clear kn2 kr2 K2
    wtm_at "gos"
    exact ⟨γ2, _, _, sm.1.sub, ⟨rfl, by wtm_at "lk", by wtm_at "lk", by wtm_at "lk"⟩, S2⟩
  · rintro γ' m' led' h' s' ⟨rfl, -⟩ S'
    refine kn1 _ ?_; clear kn1 kr1 K1
    wtm_at "gos"
    exact fin _ _ ⟨post _ _ _ _ S', fun p hp => (S'.nw p hp).1⟩
theorem and_of_ok {G : Gl} {A : Around} {h : Heap} {γ : Pm} {n : Nat} (D : Gd G) (hr : Room A (n + 3)) {c : BC} {q1 q2 : Tok} {o : BO} {B : List TKey} {cs : Led} {R : Value → Heap → Prop} (I : Ins G γ c.b 622 (bkv c (bful q1 q2))) (H : BR G γ o B) (T : Sit G γ (bcs c o ++ cs) h) (hB : B.length ≤ 1000000) (h0 : 0 < B.length) (hs : (c.a5 == sysModules) = false) {a : Addr} {vs : List Value} {e : Nat} {ns : List Nat} (ha : γ a = some (lo vs e)) (hv : Nats vs ns) (hn : ∀ i ∈ ns, ∃ k, B[i]? = some k) (h2 : 2 ≤ vs.length) (hz : vs.length ≤ 100)
    (fin : ∀ i t o' B' γ' h', Made B ⟨Str.ofString "and", ci ns, 0⟩ i B' → BR G γ' o' B' → Post γ h ((bcs c o ++ cs).map (·.1)) γ' h' → (∀ p ∈ bcs c o' ++ cs, h'.get? p.1 = some p.2) → R (.int (i : Nat) t) h') : CD G A (.call (.ref 542) ⟨[.ref c.b, .ref a], []⟩) (Ret R) h := by
  refine call_def D T hr (st := metAt 24 1) (nm := Str.ofString "and_of") (ql := Str.ofString "BoolBank.and_of") (pm := (Value.str (Str.ofString "minismt.terms") 598)) (cd := .ref 541) (binds := [(Str.ofString "self", .ref c.b), (Str.ofString "some", .ref a)]) (by kernel_rfl) (by kernel_rfl) (by kernel_rfl) (by decide +kernel) (locs (by kernel_rfl)) (by kernel_rfl) (by kernel_rfl) (by kernel_rfl) ?_
  intro an L h₁ en A' E hr' post S
  generalize hb : fBod (metAt 24 1) = b
  conv at hb => lhs; whnf
  subst hb
  simp only [puts, List.foldl] at S
  refine x_seq ?_; intro K1 kn1 kr1
  wtm_at "gos"
  refine m_get (f := 479) D S I (by kernel_rfl) (by kernel_rfl) ?_
  refine cw_K D (by kernel_rfl) ?_ (by rfl) (by rfl)
  wtm_at "gos"
  refine n_glob (v := .int 0 600) (by assumption) (by assumption) (by assumption) (ns_BOOL _) ?_ (by kernel_rfl) (by kernel_rfl)
  wtm_at "gos"
  refine ⟨S.kin D, ?_⟩
  refine wp_call (want_all_ok D hr' I H (S.sit (xs := [])) hB ⟨e, .inl ha⟩ hv hn ?_)
  intro γ2 h₂ sm
  have S := S.same (xs := []) sm
  have s2 := sm.1.sub
  have I := I.sub s2
  have H := H.sub s2
  refine ⟨rfl, ?_⟩
  refine kn1 _ ?_; clear kn1 kr1 K1
  refine x_seq ?_; intro K2 kn2 kr2
  wtm_at "gos"
  refine n_bi (v := .builtin "len") (by assumption) (by assumption) (by assumption) (ns_len _) (by kernel_rfl) (sne (by decide)) ?_ (by kernel_rfl) (by kernel_rfl)
  refine cw_B (by rfl) ?_ (by rfl) (by rfl)
  wtm_at "gos"
  refine c_len1 (S.get (s2 _ _ ha)) (by first | decide | omega) ?_
  intro tl
  wtm_at "gos"
  rw [if_neg (by rw [decide_eq_true_eq]; omega)]
  wtm_at "gos"
  refine kn2 _ ?_; clear kn2 kr2 K2
  refine x_seq ?_; intro K3 kn3 kr3
  wtm_at "gos"
  refine n_bi (v := .builtin "len") (by assumption) (by assumption) (by assumption) (ns_len _) (by kernel_rfl) (sne (by decide)) ?_ (by kernel_rfl) (by kernel_rfl)
  refine cw_B (by rfl) ?_ (by rfl) (by rfl)
  wtm_at "gos"
  refine c_len1 (S.get (s2 _ _ ha)) (by first | decide | omega) ?_
  intro tl2
  wtm_at "gos"
  rw [if_neg (by rw [decide_eq_true_eq]; omega)]
  wtm_at "gos"
  refine m_get (f := 451) D S I (by kernel_rfl) (by kernel_rfl) ?_
  refine cw_K D (by kernel_rfl) ?_ (by rfl) (by rfl)
  wtm_at "gos"
  refine n_bi (v := .type "tuple") (by assumption) (by assumption) (by assumption) (ns_tuple _) (by kernel_rfl) (sne (by decide)) ?_ (by kernel_rfl) (by kernel_rfl)
  refine cw_B (by rfl) ?_ (by rfl) (by rfl)
  wtm_at "gos"
  refine c_tuple S (S.get (s2 _ _ ha)) (by first | decide | omega) ?_
  intro rt γ3 h₃ s3 hrt S
  have I := I.sub s3
  have H := H.sub s3
  wtm_at "gos"
  refine n_glob (v := .int 0 600) (by assumption) (by assumption) (by assumption) (ns_BOOL _) ?_ (by kernel_rfl) (by kernel_rfl)
  wtm_at "gos"
  refine ⟨S.kin D, ?_⟩
  refine wp_call (make_ok D hr' I H (S.sit (xs := [])) ⟨vs, 0, hrt, hv.ints⟩ hB h0 hs ?_)
  intro i t o' B' γ4 h₄ M H4 P4 C4
  have S := S.after (xs := []) P4 (cs' := bcs c o' ++ cs) rfl C4
  refine kr3 _ _ ?_
  exact fin i t o' B' _ _ M H4 (post _ _ _ _ S) C4

theorem or_of_ok {G : Gl} {A : Around} {h : Heap} {γ : Pm} {n : Nat} (D : Gd G) (hr : Room A (n + 3)) {c : BC} {q1 q2 : Tok} {o : BO} {B : List TKey} {cs : Led} {R : Value → Heap → Prop} (I : Ins G γ c.b 622 (bkv c (bful q1 q2))) (H : BR G γ o B) (T : Sit G γ (bcs c o ++ cs) h) (hB : B.length ≤ 1000000) (h0 : 0 < B.length) (hs : (c.a5 == sysModules) = false) {a : Addr} {vs : List Value} {e : Nat} {ns : List Nat} (ha : γ a = some (lo vs e)) (hv : Nats vs ns) (hn : ∀ i ∈ ns, ∃ k, B[i]? = some k) (h2 : 2 ≤ vs.length) (hz : vs.length ≤ 100)
    (fin : ∀ i t o' B' γ' h', Made B ⟨Str.ofString "or", ci ns, 0⟩ i B' → BR G γ' o' B' → Post γ h ((bcs c o ++ cs).map (·.1)) γ' h' → (∀ p ∈ bcs c o' ++ cs, h'.get? p.1 = some p.2) → R (.int (i : Nat) t) h') : CD G A (.call (.ref 549) ⟨[.ref c.b, .ref a], []⟩) (Ret R) h := by
  refine call_def D T hr (st := metAt 24 2) (nm := Str.ofString "or_of") (ql := Str.ofString "BoolBank.or_of") (pm := (Value.str (Str.ofString "minismt.terms") 598)) (cd := .ref 548) (binds := [(Str.ofString "self", .ref c.b), (Str.ofString "some", .ref a)]) (by kernel_rfl) (by kernel_rfl) (by kernel_rfl) (by decide +kernel) (locs (by kernel_rfl)) (by kernel_rfl) (by kernel_rfl) (by kernel_rfl) ?_
  intro an L h₁ en A' E hr' post S
  generalize hb : fBod (metAt 24 2) = b
  conv at hb => lhs; whnf
  subst hb
  simp only [puts, List.foldl] at S
  refine x_seq ?_; intro K1 kn1 kr1
  wtm_at "gos"
  refine m_get (f := 479) D S I (by kernel_rfl) (by kernel_rfl) ?_
  refine cw_K D (by kernel_rfl) ?_ (by rfl) (by rfl)
  wtm_at "gos"
  refine n_glob (v := .int 0 600) (by assumption) (by assumption) (by assumption) (ns_BOOL _) ?_ (by kernel_rfl) (by kernel_rfl)
  wtm_at "gos"
  refine ⟨S.kin D, ?_⟩
  refine wp_call (want_all_ok D hr' I H (S.sit (xs := [])) hB ⟨e, .inl ha⟩ hv hn ?_)
  intro γ2 h₂ sm
  have S := S.same (xs := []) sm
  have s2 := sm.1.sub
  have I := I.sub s2
  have H := H.sub s2
  refine ⟨rfl, ?_⟩
  refine kn1 _ ?_; clear kn1 kr1 K1
  refine x_seq ?_; intro K2 kn2 kr2
  wtm_at "gos"
  refine n_bi (v := .builtin "len") (by assumption) (by assumption) (by assumption) (ns_len _) (by kernel_rfl) (sne (by decide)) ?_ (by kernel_rfl) (by kernel_rfl)
  refine cw_B (by rfl) ?_ (by rfl) (by rfl)
  wtm_at "gos"
  refine c_len1 (S.get (s2 _ _ ha)) (by first | decide | omega) ?_
  intro tl
  wtm_at "gos"
  rw [if_neg (by rw [decide_eq_true_eq]; omega)]
  wtm_at "gos"
  refine kn2 _ ?_; clear kn2 kr2 K2
  refine x_seq ?_; intro K3 kn3 kr3
  wtm_at "gos"
  refine n_bi (v := .builtin "len") (by assumption) (by assumption) (by assumption) (ns_len _) (by kernel_rfl) (sne (by decide)) ?_ (by kernel_rfl) (by kernel_rfl)
  refine cw_B (by rfl) ?_ (by rfl) (by rfl)
  wtm_at "gos"
  refine c_len1 (S.get (s2 _ _ ha)) (by first | decide | omega) ?_
  intro tl2
  wtm_at "gos"
  rw [if_neg (by rw [decide_eq_true_eq]; omega)]
  wtm_at "gos"
  refine m_get (f := 451) D S I (by kernel_rfl) (by kernel_rfl) ?_
  refine cw_K D (by kernel_rfl) ?_ (by rfl) (by rfl)
  wtm_at "gos"
  refine n_bi (v := .type "tuple") (by assumption) (by assumption) (by assumption) (ns_tuple _) (by kernel_rfl) (sne (by decide)) ?_ (by kernel_rfl) (by kernel_rfl)
  refine cw_B (by rfl) ?_ (by rfl) (by rfl)
  wtm_at "gos"
  refine c_tuple S (S.get (s2 _ _ ha)) (by first | decide | omega) ?_
  intro rt γ3 h₃ s3 hrt S
  have I := I.sub s3
  have H := H.sub s3
  wtm_at "gos"
  refine n_glob (v := .int 0 600) (by assumption) (by assumption) (by assumption) (ns_BOOL _) ?_ (by kernel_rfl) (by kernel_rfl)
  wtm_at "gos"
  refine ⟨S.kin D, ?_⟩
  refine wp_call (make_ok D hr' I H (S.sit (xs := [])) ⟨vs, 0, hrt, hv.ints⟩ hB h0 hs ?_)
  intro i t o' B' γ4 h₄ M H4 P4 C4
  have S := S.after (xs := []) P4 (cs' := bcs c o' ++ cs) rfl C4
  refine kr3 _ _ ?_
  exact fin i t o' B' _ _ M H4 (post _ _ _ _ S) C4
theorem implies_of_ok {G : Gl} {A : Around} {h : Heap} {γ : Pm} {n : Nat} (D : Gd G) (hr : Room A (n + 3)) {c : BC} {q1 q2 : Tok} {o : BO} {B : List TKey} {cs : Led} {R : Value → Heap → Prop} (I : Ins G γ c.b 622 (bkv c (bful q1 q2))) (H : BR G γ o B) (T : Sit G γ (bcs c o ++ cs) h) (hB : B.length ≤ 1000000) (h0 : 0 < B.length) (hs : (c.a5 == sysModules) = false) {i j : Nat} {ti tj : Tok} (hi : ∃ k, B[i]? = some k) (hj : ∃ k, B[j]? = some k)
    (fin : ∀ i' t o' B' γ' h', Made B ⟨Str.ofString "=>", ci [i, j], 0⟩ i' B' → BR G γ' o' B' → Post γ h ((bcs c o ++ cs).map (·.1)) γ' h' → (∀ p ∈ bcs c o' ++ cs, h'.get? p.1 = some p.2) → R (.int (i' : Nat) t) h') : CD G A (.call (.ref 563) ⟨[.ref c.b, .int (i : Nat) ti, .int (j : Nat) tj], []⟩) (Ret R) h := by
  refine call_def D T hr (st := metAt 24 4) (nm := Str.ofString "implies_of") (ql := Str.ofString "BoolBank.implies_of") (pm := (Value.str (Str.ofString "minismt.terms") 598)) (cd := .ref 562) (binds := [(Str.ofString "self", .ref c.b), (Str.ofString "a", .int (i : Nat) ti), (Str.ofString "b", .int (j : Nat) tj)]) (by kernel_rfl) (by kernel_rfl) (by kernel_rfl) (by decide +kernel) (locs (by kernel_rfl)) (by kernel_rfl) (by kernel_rfl) (by kernel_rfl) ?_
  intro an L h₁ en A' E hr' post S
  generalize hb : fBod (metAt 24 4) = b
  conv at hb => lhs; whnf
  subst hb
  simp only [puts, List.foldl] at S
  have hv : Nats [.int (i : Nat) ti, .int (j : Nat) tj] [i, j] := .cons (.cons .nil)
  refine x_seq ?_; intro K1 kn1 kr1
  wtm_at "gos"
  refine m_get (f := 479) D S I (by kernel_rfl) (by kernel_rfl) ?_
  refine cw_K D (by kernel_rfl) ?_ (by rfl) (by rfl)
  wtm_at "gos"
  refine ⟨small (by simp), ?_⟩
  obtain ⟨γ1, r1, hsz, s1, hr1, S⟩ := S.madeX (tu [.int (i : Nat) ti, .int (j : Nat) tj] 0) rfl
  rw [hsz]
  have I := I.sub s1
  have H := H.sub s1
  wtm_at "gos"
  refine n_glob (v := .int 0 600) (by assumption) (by assumption) (by assumption) (ns_BOOL _) ?_ (by kernel_rfl) (by kernel_rfl)
  wtm_at "gos"
  refine ⟨S.kin D, ?_⟩
  refine wp_call (want_all_ok D hr' I H (S.sit (xs := [])) hB ⟨0, .inr hr1⟩ hv (by
    intro x hx
    rcases List.mem_cons.mp hx with rfl | hx
    · exact hi
    · rw [List.mem_singleton] at hx; subst hx; exact hj) ?_)
  intro γ2 h₂ sm
  have S := S.same (xs := []) sm
  have s2 := sm.1.sub
  have I := I.sub s2
  have H := H.sub s2
  refine ⟨rfl, ?_⟩
  refine kn1 _ ?_; clear kn1 kr1 K1
  refine x_seq ?_; intro K3 kn3 kr3
  wtm_at "gos"
  refine m_get (f := 451) D S I (by kernel_rfl) (by kernel_rfl) ?_
  refine cw_K D (by kernel_rfl) ?_ (by rfl) (by rfl)
  wtm_at "gos"
  refine ⟨small (by simp), ?_⟩
  obtain ⟨γ3, r3, hsz, s3, hr3, S⟩ := S.madeX (tu [.int (i : Nat) ti, .int (j : Nat) tj] 0) rfl
  rw [hsz]
  have I := I.sub s3
  have H := H.sub s3
  wtm_at "gos"
  refine n_glob (v := .int 0 600) (by assumption) (by assumption) (by assumption) (ns_BOOL _) ?_ (by kernel_rfl) (by kernel_rfl)
  wtm_at "gos"
  refine ⟨S.kin D, ?_⟩
  refine wp_call (make_ok D hr' I H (S.sit (xs := [])) ⟨_, 0, hr3, hv.ints⟩ hB h0 hs ?_)
  intro i' t o' B' γ4 h₄ M H4 P4 C4
  have S := S.after (xs := []) P4 (cs' := bcs c o' ++ cs) rfl C4
  refine kr3 _ _ ?_
  exact fin i' t o' B' _ _ M H4 (post _ _ _ _ S) C4
/-- what not_of gives -/
def NotR (B : List TKey) (k : TKey) (t i : Nat) (B' : List TKey) : Prop := (k.op = Str.ofString "not" ∧ B' = B ∧ ci [i] = k.args) ∨ (k.op ≠ Str.ofString "not" ∧ Made B ⟨Str.ofString "not", ci [t], 0⟩ i B')
theorem not_of_ok {G : Gl} {A : Around} {h : Heap} {γ : Pm} {n : Nat} (D : Gd G) (hr : Room A (n + 3)) {c : BC} {q1 q2 : Tok} {o : BO} {B : List TKey} {cs : Led} {R : Value → Heap → Prop} (I : Ins G γ c.b 622 (bkv c (bful q1 q2))) (H : BR G γ o B) (T : Sit G γ (bcs c o ++ cs) h) (hB : B.length ≤ 1000000) (h0 : 0 < B.length) (hs : (c.a5 == sysModules) = false) {j : Nat} {tj : Tok} {k : TKey} (hj : B[j]? = some k) (hk : k.op = Str.ofString "not" → ∃ i : Nat, k.args = ci [i]) (h3 : 3 ≤ j)
    (fin : ∀ i t o' B' γ' h', NotR B k j i B' → BR G γ' o' B' → Post γ h ((bcs c o ++ cs).map (·.1)) γ' h' → (∀ p ∈ bcs c o' ++ cs, h'.get? p.1 = some p.2) → R (.int (i : Nat) t) h') : CD G A (.call (.ref 535) ⟨[.ref c.b, .int (j : Nat) tj], []⟩) (Ret R) h := by
  refine call_def D T hr (st := metAt 24 0) (nm := Str.ofString "not_of") (ql := Str.ofString "BoolBank.not_of") (pm := (Value.str (Str.ofString "minismt.terms") 598)) (cd := .ref 534) (binds := [(Str.ofString "self", .ref c.b), (Str.ofString "t", .int (j : Nat) tj)]) (by kernel_rfl) (by kernel_rfl) (by kernel_rfl) (by decide +kernel) (locs (by kernel_rfl)) (by kernel_rfl) (by kernel_rfl) (by kernel_rfl) ?_
  intro an L h₁ en A' E hr' post S
  generalize hb : fBod (metAt 24 0) = b
  conv at hb => lhs; whnf
  subst hb
  simp only [puts, List.foldl] at S
  have hi : j < B.length := by
    by_cases z : j < B.length
    · exact z
    · rw [List.getElem?_eq_none (by first | decide | omega)] at hj; cases hj
  refine x_seq ?_; intro K1 kn1 kr1
  wtm_at "gos"
  refine m_get (f := 472) D S I (by kernel_rfl) (by kernel_rfl) ?_
  refine cw_K D (by kernel_rfl) ?_ (by rfl) (by rfl)
  wtm_at "gos"
  refine n_glob (v := .int 0 600) (by assumption) (by assumption) (by assumption) (ns_BOOL _) ?_ (by kernel_rfl) (by kernel_rfl)
  wtm_at "gos"
  refine ⟨S.kin D, ?_⟩
  refine wp_call (want_ok D (hr'.less (by first | decide | omega) : Room A' (n + 1 + 1)) I H (S.sit (xs := [])) hB hj ?_)
  intro γ2 h₂ sm
  have S := S.same (xs := []) sm
  have s2 := sm.1.sub
  have I := I.sub s2
  have H := H.sub s2
  refine ⟨rfl, ?_⟩
  refine kn1 _ ?_; clear kn1 kr1 K1
  obtain ⟨vs1, e1, q1, l1, r1⟩ := H.l1
  obtain ⟨vs2, e2, q2, l2, r2⟩ := H.l2
  obtain ⟨o1, o2, o3, o4, o5⟩ := o
  simp only at q1 q2
  subst q1 q2
  have SS := S
  simp only [bcs, List.cons_append, List.nil_append] at S
  obtain ⟨tv, hv⟩ := r1 j k hj
  refine x_seq ?_; intro K2 kn2 kr2
  wtm_at "gos"
  refine i_list (S.led_get (by wtm_at "mem")) (by first | decide | omega) (by first | decide | omega) (by simpa using hv) ?_ sub_name
  wtm_at "gos"
  refine o_eqs ?_
  wtm_at "gos"
  by_cases hop : k.op = Str.ofString "not"
  · rw [if_pos (by rw [decide_eq_true_eq]; exact hop)]
    obtain ⟨i, hka⟩ := hk hop
    obtain ⟨av, ha1, ha2⟩ := r2 j k hj
    obtain ⟨us, ue, hu, hui⟩ := ha2
    rw [hka] at hui
    have hn := Nats.of_ints hui
    obtain ⟨tu1, hu1⟩ := hn.got (i := 0) rfl
    have hlen := hn.len
    refine x_seq ?_; intro K4 kn4 kr4
    wtm_at "gos"
    refine i_list (S.led_get (by wtm_at "mem")) (by first | decide | omega) (by first | decide | omega) (by simpa using ha1) ?_ sub_name
    wtm_at "gos"
    refine i_tup (j := 0) (S.get hu) (by first | decide | omega) (by first | decide | omega) (by rw [hlen]; rfl) hu1 ?_ sub_const
    refine kr4 _ _ ?_
    refine kr2 _ _ ?_
    exact fin i tu1 _ B _ _ (.inl ⟨hop, rfl, hka.symm⟩) H (post _ _ _ _ SS) fun p hp => (SS.nw p hp).1
  · rw [if_neg (by rw [decide_eq_true_eq]; exact hop)]
    wtm_at "gos"
    refine kn2 _ ?_; clear kn2 kr2 K2
    refine x_seq ?_; intro K5 kn5 kr5
    wtm_at "gos"
    rw [if_neg (by rw [decide_eq_true_eq]; omega)]
    wtm_at "gos"
    refine kn5 _ ?_; clear kn5 kr5 K5
    refine x_seq ?_; intro K6 kn6 kr6
    wtm_at "gos"
    rw [if_neg (by rw [decide_eq_true_eq]; omega)]
    wtm_at "gos"
    refine kn6 _ ?_; clear kn6 kr6 K6
    refine x_seq ?_; intro K7 kn7 kr7
    wtm_at "gos"
    clear S
    have S := SS
    refine m_get (f := 451) D S I (by kernel_rfl) (by kernel_rfl) ?_
    refine cw_K D (by kernel_rfl) ?_ (by rfl) (by rfl)
    wtm_at "gos"
    refine ⟨small (by simp), ?_⟩
    obtain ⟨γ3, r3, hsz, s3, hr3, S⟩ := S.madeX (tu [.int (j : Nat) tj] 0) rfl
    rw [hsz]
    have I := I.sub s3
    have H := H.sub s3
    wtm_at "gos"
    refine n_glob (v := .int 0 600) (by assumption) (by assumption) (by assumption) (ns_BOOL _) ?_ (by kernel_rfl) (by kernel_rfl)
    wtm_at "gos"
    refine ⟨S.kin D, ?_⟩
    refine wp_call (make_ok D hr' I H (S.sit (xs := [])) ⟨_, 0, hr3, Nats.ints (.cons .nil)⟩ hB h0 hs ?_)
    intro i' t o' B' γ4 h₄ M H4 P4 C4
    have S := S.after (xs := []) P4 (cs' := bcs c o' ++ cs) rfl C4
    refine kr7 _ _ ?_
    exact fin i' t o' B' _ _ (.inr ⟨hop, M⟩) H4 (post _ _ _ _ S) C4
/-! the parts that alternatives tells -/
inductive Flat (B : List TKey) : List Nat → List Nat → Nat → Prop
  | nil : Flat B [] [] 0
  | leaf {p : Nat} {k : TKey} {W F : List Nat} {n : Nat} : B[p]? = some k → k.op ≠ Str.ofString "or" → Flat B W F n → Flat B (p :: W) (p :: F) (n + 1)
  | open_ {p : Nat} {k : TKey} {as W F : List Nat} {n : Nat} : B[p]? = some k → k.op = Str.ofString "or" → k.args = ci as → Flat B (as ++ W) F n → Flat B (p :: W) F (n + 1)
theorem Flat.len {B : List TKey} {W F : List Nat} {n : Nat} (x : Flat B W F n) : W.length ≤ n := by
  induction x with
  | nil => exact Nat.zero_le _
  | leaf _ _ _ ih => simp; omega
  | open_ _ _ _ _ ih => simp at ih ⊢; omega
structure CC where
  k : Addr
  core : Addr
  vars : Addr
  terms : Addr
  sides : Addr
  opened : Addr
  waiting : Addr
  t0 : Tok
abbrev ckv (b : Addr) (x : CC) : List (Str × Value) := [(Str.ofString "bank", .ref b), (Str.ofString "core", .ref x.core), (Str.ofString "proof", .none), (Str.ofString "vars", .ref x.vars), (Str.ofString "terms", .ref x.terms), (Str.ofString "sides", .ref x.sides), (Str.ofString "opened", .ref x.opened), (Str.ofString "waiting", .ref x.waiting), (Str.ofString "spot", .int 0 x.t0)]
theorem Nats.uncons {vs : List Value} {p : Nat} {ns : List Nat} (x : Nats vs (p :: ns)) : ∃ t us, vs = .int (p : Nat) t :: us ∧ Nats us ns := by cases x; exact ⟨_, _, rfl, by assumption⟩
theorem nats_rev {vs : List Value} {ns : List Nat} (x : Nats vs ns) : Nats vs.reverse ns.reverse := by
  induction x with
  | nil => exact .nil
  | cons _ ih => rw [List.reverse_cons, List.reverse_cons]; exact ih.append (.cons .nil)
theorem alternatives_ok {G : Gl} {A : Around} {h : Heap} {γ : Pm} {n : Nat} (D : Gd G) (hr : Room A (n + 3)) {c : BC} {x : CC} {q1 q2 : Tok} {o : BO} {B : List TKey} {cs : Led} {R : Value → Heap → Prop} {a : Addr} {vs : List Value} {ns F : List Nat} {N : Nat}
    (J : Ins G γ x.k 300 (ckv c.b x)) (I : Ins G γ c.b 622 (bkv c (bful q1 q2))) (H : BR G γ o B) (T : Sit G γ (bcs c o ++ cs) h) (hB : B.length ≤ 1000000) (ha : SeqO γ a vs) (hv : Nats vs ns) (hF : Flat B ns F N) (hN : N ≤ 100000)
    (fin : ∀ r us e γ' h', γ' r = some (lo us e) → Nats us F → Same γ h (bcs c o ++ cs) γ' h' → R (.ref r) h') : CD G A (.call (.ref 297) ⟨[.ref x.k, .ref a], []⟩) (Ret R) h := by
  refine call_def D T hr (st := metAt 20 17) (nm := Str.ofString "alternatives") (ql := Str.ofString "BoolClauses.alternatives") (pm := (Value.str (Str.ofString "minismt.clauses") 275)) (cd := .ref 296) (binds := [(Str.ofString "self", .ref x.k), (Str.ofString "args", .ref a)]) (by kernel_rfl) (by kernel_rfl) (by kernel_rfl) (by decide +kernel) (locs (by kernel_rfl)) (by kernel_rfl) (by kernel_rfl) (by kernel_rfl) ?_
  intro an L h₁ en A' E hr' post S
  generalize hb : fBod (metAt 20 17) = b
  conv at hb => lhs; whnf
  subst hb
  simp only [puts, List.foldl] at S
  refine x_seq ?_; intro K1 kn1 kr1
  refine x_Swap (names := [Str.ofString "found", Str.ofString "stack"]) (swapped_of E fun e => by kernel_rfl) (by rfl) ?_
  wtm_at "gos"
  refine ⟨small (by simp), ?_⟩
  have S1 := S.push_led (lo [] 0) rfl
  have hF0 := S.up
  generalize h₁.objs.size = aF at S1 hF0 ⊢
  wtm_at "gos"
  refine n_bi (v := .type "list") (by assumption) (by assumption) (by assumption) (ns_list _) (by kernel_rfl) (sne (by decide)) ?_ (by kernel_rfl) (by kernel_rfl)
  refine cw_B (by rfl) ?_ (by rfl) (by rfl)
  wtm_at "gos"
  refine n_bi (v := .type "reversed") (by assumption) (by assumption) (by assumption) (ns_reversed _) (by kernel_rfl) (sne (by decide)) ?_ (by kernel_rfl) (by kernel_rfl)
  refine cw_B (by rfl) ?_ (by rfl) (by rfl)
  wtm_at "gos"
  have hvl := hv.len
  have hFl := hF.len
  refine c_revS S1 ha (by first | decide | omega) ?_
  intro I1 oI1 Ok1 T1 h₂ It1 W1 ok1 S2
  wtm_at "gos"
  refine c_list hr'.h It1 W1 (by rw [List.length_reverse]; omega) ok1 S2 ?_
  intro aS h₃ k3 S3
  wtm_at "gos"
  refine ⟨small (by simp), ?_⟩
  have s4 := Sub.ins (o := tu [.ref aF, .ref aS] 0) S3.size_none
  have hT4 := ins_self (γ := γ) (a := h₃.objs.size) (o := tu [.ref aF, .ref aS] 0)
  have S4 := S3.made (tu [.ref aF, .ref aS] 0) rfl
  generalize ins γ h₃.objs.size (tu [.ref aF, .ref aS] 0) = γ4 at s4 hT4 S4
  generalize h₃.objs.size = t4 at hT4 ⊢
  have I := I.sub s4
  have J := J.sub s4
  have H := H.sub s4
  refine u_tup hr'.h S4 (S4.get hT4) rfl ?_
  intro h₅ S5
  refine io_cons (bn ?_)
  refine n_store (by assumption) E ?_ (by kernel_rfl); intro _ S
  refine io_cons (bn ?_)
  refine n_store (by assumption) E ?_ (by kernel_rfl); intro _ S
  refine io_nil ?_
  refine kn1 _ ?_; clear kn1 kr1 K1
  refine x_seq ?_; intro K2 kn2 kr2
  refine x_While ?_
  refine cd_while (fun n h => ∃ γ' m' W ws sk F1 F2 fs fk, Sub γ4 γ' ∧ m' (Str.ofString "self") = some (.ref x.k) ∧ m' (Str.ofString "found") = some (.ref aF) ∧ m' (Str.ofString "stack") = some (.ref aS) ∧ Nats ws W ∧ Flat B W F2 n ∧ Nats fs F1 ∧ F1 ++ F2 = F ∧ fs.length + n ≤ 200000 ∧
    St G an γ' L m' ((aS, lo ws.reverse sk) :: (aF, lo fs fk) :: (bcs c o ++ cs)) h) ?_ N ⟨γ4, _, ns, vs, _, [], F, [], _, Sub.refl _, by wtm_at "lk", by wtm_at "lk", by wtm_at "lk", hv, hF, .nil, rfl, by simp; omega, S⟩
  clear hF hv It1 W1 S1 S2 S3 S4 S5 S
  rintro N h ⟨γ', m', W, ws, sk, F1, F2, fs, fk, s', m1, m2, m3, hws, hF, hfs, rfl, hfn, S⟩
  have I := I.sub s'
  have J := J.sub s'
  have H := H.sub s'
  have hwl := hws.len
  have hFl := hF.len
  wtm_at "gos"
  refine n_bi (v := .builtin "len") (by assumption) (by assumption) (by assumption) (ns_len _) (by kernel_rfl) (sne (by decide)) ?_ (by kernel_rfl) (by kernel_rfl)
  refine cw_B (by rfl) ?_ (by rfl) (by rfl)
  wtm_at "gos"
  refine c_len1 (S.led_get (by wtm_at "mem")) (by rw [List.length_reverse]; omega) ?_
  intro tl
  wtm_at "gos"
  rw [List.length_reverse]
  split
  next hlt =>
    have hlt := of_decide_eq_true hlt
    cases W with
    | nil => cases hws; simp at hlt
    | cons p W' =>
      obtain ⟨tp, ws', rfl, hws'⟩ := hws.uncons
      rw [List.reverse_cons] at S
      refine x_seq ?_; intro K3 kn3 kr3
      wtm_at "gos"
      refine lm_pop (S.led_get (by wtm_at "mem")) ?_
      refine cw_B0 (by rfl) ?_
      refine l_pop S (fun _ => by wtm_at "u") (by simp at hwl hFl ⊢; omega) ?_
      intro k6 h₆ S
      refine n_store (by assumption) E ?_ (by kernel_rfl); intro _ S
      refine kn3 _ ?_; clear kn3 kr3 K3
      obtain ⟨kp, hkp⟩ : ∃ k, B[p]? = some k := by cases hF with | leaf a _ _ => exact ⟨_, a⟩ | open_ a _ _ _ => exact ⟨_, a⟩
      refine x_seq ?_; intro K4 kn4 kr4
      wtm_at "gos"
      refine m_get (f := 409) D S I (by kernel_rfl) (by kernel_rfl) ?_
      refine cw_K D (by kernel_rfl) ?_ (by rfl) (by rfl)
      wtm_at "gos"
      refine ⟨S.kin D, ?_⟩
      refine wp_call (op_ok D (hr'.less (by first | decide | omega) : Room A' (n + 1 + 1)) I H (S.sit (xs := [(aS, _), (aF, _)]) (cs := bcs c o ++ cs)) hB hkp ?_)
      intro to γ7 h₇ sm
      have S := S.same (xs := [(aS, _), (aF, _)]) (cs := bcs c o ++ cs) sm
      have s7 := sm.1.sub
      have I := I.sub s7
      have J := J.sub s7
      have H := H.sub s7
      wtm_at "gos"
      refine o_eqs ?_
      wtm_at "gos"
      by_cases hop : kp.op = Str.ofString "or"
      · rw [if_pos (by rw [decide_eq_true_eq]; exact hop)]
        obtain ⟨as, N', rfl, hka, hF'⟩ : ∃ as N', N = N' + 1 ∧ kp.args = ci as ∧ Flat B (as ++ W') F2 N' := by
          cases hF with
          | leaf a b e => rw [hkp] at a; cases a; exact absurd hop b
          | open_ a b e z => rw [hkp] at a; cases a; exact ⟨_, _, rfl, e, z⟩
        refine x_seq ?_; intro K5 kn5 kr5
        wtm_at "gos"
        refine lm_extend (S.led_get (by wtm_at "mem")) ?_
        refine cw_B (by rfl) ?_ (by rfl) (by rfl)
        wtm_at "gos"
        refine n_bi (v := .type "reversed") (by assumption) (by assumption) (by assumption) (ns_reversed _) (by kernel_rfl) (sne (by decide)) ?_ (by kernel_rfl) (by kernel_rfl)
        refine cw_B (by rfl) ?_ (by rfl) (by rfl)
        wtm_at "gos"
        refine m_get (f := 416) D S I (by kernel_rfl) (by kernel_rfl) ?_
        refine cw_K D (by kernel_rfl) ?_ (by rfl) (by rfl)
        wtm_at "gos"
        refine ⟨S.kin D, ?_⟩
        refine wp_call (args_ok D (hr'.less (by first | decide | omega) : Room A' (n + 1 + 1)) I H (S.sit (xs := [(aS, _), (aF, _)]) (cs := bcs c o ++ cs)) hB hkp ?_)
        intro a8 γ8 h₈ hz8 sm
        have S := S.same (xs := [(aS, _), (aF, _)]) (cs := bcs c o ++ cs) sm
        have s8 := sm.1.sub
        obtain ⟨us, e8, hu8, hi8⟩ := hz8
        rw [hka] at hi8
        have hn8 := Nats.of_ints hi8
        have hl8 := hn8.len
        have hFl8 := hF'.len
        rw [List.length_append] at hFl8
        wtm_at "gos"
        refine c_revS S ⟨e8, .inr (s8 _ _ hu8)⟩ (by first | decide | omega) ?_
        intro I9 oI9 Ok9 T9 h₉ It9 W9 ok9 S
        wtm_at "gos"
        refine l_ext hr'.h It9 W9 (by rw [List.length_reverse]; omega) (by rw [List.length_reverse]; simp at hwl hFl; omega) ok9 S ?_
        intro h10 k10 S
        refine ⟨rfl, ?_⟩
        rw [← List.reverse_append] at S
        refine kn5 _ ?_; clear kn5 kr5 K5
        wtm_at "gos"
        refine kn4 _ ?_; clear kn4 kr4 K4
        wtm_at "gos"
        refine ⟨N', by omega, γ8, _, as ++ W', us ++ ws', _, F1, F2, _, _, (s'.trans s7).trans s8, by wtm_at "lk", by wtm_at "lk", by wtm_at "lk", hn8.append hws', hF', hfs, rfl, by omega, S⟩
      · rw [if_neg (by rw [decide_eq_true_eq]; exact hop)]
        obtain ⟨F3, N', rfl, rfl, hF'⟩ : ∃ F3 N', F2 = p :: F3 ∧ N = N' + 1 ∧ Flat B W' F3 N' := by
          cases hF with
          | leaf a b e => exact ⟨_, _, rfl, rfl, e⟩
          | open_ a b _ _ => rw [hkp] at a; cases a; exact absurd b hop
        refine x_seq ?_; intro K5 kn5 kr5
        wtm_at "gos"
        refine lm_append (by wtm_at "at") ?_; refine cw_B (by rfl) ?_ (by rfl) (by rfl)
        wtm_at "gos"
        refine l_append S (by wtm_at "u") (by first | decide | omega) ?_
        intro h₈ S
        refine ⟨rfl, ?_⟩
        refine kn5 _ ?_; clear kn5 kr5 K5
        wtm_at "gos"
        refine kn4 _ ?_; clear kn4 kr4 K4
        wtm_at "gos"
        refine ⟨N', by omega, γ7, _, W', ws', _, F1 ++ [p], F3, _, _, s'.trans s7, by wtm_at "lk", by wtm_at "lk", by wtm_at "lk", hws', hF', hfs.append (.cons .nil), by simp, by simp; omega, S⟩
  next hle =>
    rw [decide_eq_true_eq] at hle
    cases hws with
    | cons _ => simp at hle
    | nil =>
      cases hF
      refine kn2 _ ?_; clear kn2 kr2 K2
      have S5 := (S.perm (List.Perm.swap _ _ _)).freeze hF0
      have hs5 := Sub.ins (o := lo fs fk) (S.nw _ (.tail _ (.head _))).2.1
      have hg5 := ins_self (γ := γ') (a := aF) (o := lo fs fk)
      have S := S5.drop
      refine x_seq ?_; intro K9 kn9 kr9
      wtm_at "gos"
      refine kr9 _ _ ?_
      exact fin aF fs fk _ _ hg5 (by rw [List.append_nil]; exact hfs) ⟨post _ _ _ _ S, fun p hp => (S.nw p hp).1⟩
/-! what the law builds, read off the bank -/
inductive Rep (B : List TKey) : Nat → Nat → List Nat → (Nat → Nat) → Prop
  | name {d k : Nat} : k < 4 → B[3 + k]? = some ⟨Str.ofString "app", ci [], (k : Nat)⟩ → Rep B d (3 + k) [3 + k] (fun r => r / 2 ^ k % 2)
  | neg {d a i : Nat} {F : List Nat} {f : Nat → Nat} : Rep B d a F f → B[i]? = some ⟨Str.ofString "not", ci [a], 0⟩ → Rep B (d + 1) i [i] (fun r => 1 - f r)
  | and2 {d a b i : Nat} {F F' : List Nat} {f g : Nat → Nat} : Rep B d a F f → Rep B d b F' g → B[i]? = some ⟨Str.ofString "and", ci [a, b], 0⟩ → Rep B (d + 1) i [i] (fun r => min (f r) (g r))
  | imp {d a b i : Nat} {F F' : List Nat} {f g : Nat → Nat} : Rep B d a F f → Rep B d b F' g → B[i]? = some ⟨Str.ofString "=>", ci [a, b], 0⟩ → Rep B (d + 1) i [i] (fun r => if f r ≤ g r then 1 else 0)
  | or2 {d a b i : Nat} {F F' : List Nat} {f g : Nat → Nat} : Rep B d a F f → Rep B d b F' g → B[i]? = some ⟨Str.ofString "or", ci [a, b], 0⟩ → Rep B (d + 1) i (F ++ F') (fun r => max (f r) (g r))
  | or3 {d a b c i : Nat} {F F' F'' : List Nat} {f g h : Nat → Nat} : Rep B d a F f → Rep B d b F' g → Rep B d c F'' h → B[i]? = some ⟨Str.ofString "or", ci [a, b, c], 0⟩ → Rep B (d + 1) i (F ++ (F' ++ F'')) (fun r => max (f r) (max (g r) (h r)))
section
variable {B B' : List TKey} {d i : Nat} {F : List Nat} {f : Nat → Nat}
theorem Rep.mono (x : Rep B d i F f) (p : B <+: B') : Rep B' d i F f := by
  induction x with
  | name hk e => exact .name hk (pre_get p e)
  | neg _ e ih => exact .neg ih (pre_get p e)
  | and2 _ _ e i1 i2 => exact .and2 i1 i2 (pre_get p e)
  | imp _ _ e i1 i2 => exact .imp i1 i2 (pre_get p e)
  | or2 _ _ e i1 i2 => exact .or2 i1 i2 (pre_get p e)
  | or3 _ _ _ e i1 i2 i3 => exact .or3 i1 i2 i3 (pre_get p e)
theorem Rep.up (x : Rep B d i F f) : Rep B (d + 1) i F f := by
  induction x with
  | name hk e => exact .name hk e
  | neg _ e ih => exact .neg ih e
  | and2 _ _ e i1 i2 => exact .and2 i1 i2 e
  | imp _ _ e i1 i2 => exact .imp i1 i2 e
  | or2 _ _ e i1 i2 => exact .or2 i1 i2 e
  | or3 _ _ _ e i1 i2 i3 => exact .or3 i1 i2 i3 e
theorem Rep.ups (x : Rep B d i F f) : ∀ {d' : Nat}, d ≤ d' → Rep B d' i F f := by
  intro d' h
  obtain ⟨k, rfl⟩ := Nat.exists_eq_add_of_le h
  clear h
  induction k with
  | zero => exact x
  | succ k ih => exact ih.up
theorem Rep.le1 (x : Rep B d i F f) (r : Nat) : f r ≤ 1 := by
  induction x with
  | name _ _ => dsimp only; omega
  | neg _ _ _ => dsimp only; omega
  | and2 _ _ _ i1 i2 => dsimp only; omega
  | imp _ _ _ _ _ => dsimp only; split <;> omega
  | or2 _ _ _ i1 i2 => dsimp only; omega
  | or3 _ _ _ _ i1 i2 i3 => dsimp only; omega
theorem Rep.at_ (x : Rep B d i F f) : ∃ k, B[i]? = some k := by
  cases x with
  | name _ e => exact ⟨_, e⟩
  | neg _ e => exact ⟨_, e⟩
  | and2 _ _ e => exact ⟨_, e⟩
  | imp _ _ e => exact ⟨_, e⟩
  | or2 _ _ e => exact ⟨_, e⟩
  | or3 _ _ _ e => exact ⟨_, e⟩
theorem ci_inj {a b : List Nat} (e : ci a = ci b) : a = b := by
  induction a generalizing b with
  | nil => cases b with | nil => rfl | cons _ _ => cases e
  | cons x a ih =>
    cases b with
    | nil => cases e
    | cons y b =>
      simp only [ci, List.map_cons, List.cons.injEq] at e
      rw [ih e.2, Int.ofNat.inj e.1]
theorem key_inj {o o' : Str} {a a' : List Nat} {x x' : Int} (e : (some ⟨o, ci a, x⟩ : Option TKey) = some ⟨o', ci a', x'⟩) : o = o' ∧ a = a' ∧ x = x' := by
  simp only [Option.some.injEq, TKey.mk.injEq] at e
  exact ⟨e.1, ci_inj e.2.1, e.2.2⟩
theorem Rep.uni (x : Rep B d i F f) : ∀ {d' : Nat} {F' : List Nat} {f' : Nat → Nat}, Rep B d' i F' f' → F = F' ∧ f = f' := by
  induction x with
  | @name d k hk e =>
    intro d' F' f' y
    generalize hi : 3 + k = i at e y
    cases y with
    | @name d' k' hk' e' => have : k = k' := by omega
                            subst this; exact ⟨rfl, rfl⟩
    | neg _ e' => rw [e] at e'; exact absurd (key_inj e').1 (sne (by decide))
    | and2 _ _ e' => rw [e] at e'; exact absurd (key_inj e').1 (sne (by decide))
    | imp _ _ e' => rw [e] at e'; exact absurd (key_inj e').1 (sne (by decide))
    | or2 _ _ e' => rw [e] at e'; exact absurd (key_inj e').1 (sne (by decide))
    | or3 _ _ _ e' => rw [e] at e'; exact absurd (key_inj e').1 (sne (by decide))
  | neg _ e ih =>
    intro d' F' f' y
    cases y with
    | name hk' e' => rw [e] at e'; exact absurd (key_inj e').1 (sne (by decide))
    | neg z e' => rw [e] at e'
                  obtain ⟨_, h2, _⟩ := key_inj e'
                  cases h2
                  obtain ⟨_, rfl⟩ := ih z; exact ⟨rfl, rfl⟩
    | and2 _ _ e' => rw [e] at e'; exact absurd (key_inj e').1 (sne (by decide))
    | imp _ _ e' => rw [e] at e'; exact absurd (key_inj e').1 (sne (by decide))
    | or2 _ _ e' => rw [e] at e'; exact absurd (key_inj e').1 (sne (by decide))
    | or3 _ _ _ e' => rw [e] at e'; exact absurd (key_inj e').1 (sne (by decide))
  | and2 _ _ e i1 i2 =>
    intro d' F' f' y
    cases y with
    | name hk' e' => rw [e] at e'; exact absurd (key_inj e').1 (sne (by decide))
    | neg z e' => rw [e] at e'; exact absurd (key_inj e').1 (sne (by decide))
    | and2 z1 z2 e' => rw [e] at e'
                       obtain ⟨_, h2, _⟩ := key_inj e'
                       cases h2
                       obtain ⟨_, rfl⟩ := i1 z1; obtain ⟨_, rfl⟩ := i2 z2; exact ⟨rfl, rfl⟩
    | imp _ _ e' => rw [e] at e'; exact absurd (key_inj e').1 (sne (by decide))
    | or2 _ _ e' => rw [e] at e'; exact absurd (key_inj e').1 (sne (by decide))
    | or3 _ _ _ e' => rw [e] at e'; exact absurd (key_inj e').1 (sne (by decide))
  | imp _ _ e i1 i2 =>
    intro d' F' f' y
    cases y with
    | name hk' e' => rw [e] at e'; exact absurd (key_inj e').1 (sne (by decide))
    | neg z e' => rw [e] at e'; exact absurd (key_inj e').1 (sne (by decide))
    | and2 _ _ e' => rw [e] at e'; exact absurd (key_inj e').1 (sne (by decide))
    | imp z1 z2 e' => rw [e] at e'
                      obtain ⟨_, h2, _⟩ := key_inj e'
                      cases h2
                      obtain ⟨_, rfl⟩ := i1 z1; obtain ⟨_, rfl⟩ := i2 z2; exact ⟨rfl, rfl⟩
    | or2 _ _ e' => rw [e] at e'; exact absurd (key_inj e').1 (sne (by decide))
    | or3 _ _ _ e' => rw [e] at e'; exact absurd (key_inj e').1 (sne (by decide))
  | or2 _ _ e i1 i2 =>
    intro d' F' f' y
    cases y with
    | name hk' e' => rw [e] at e'; exact absurd (key_inj e').1 (sne (by decide))
    | neg z e' => rw [e] at e'; exact absurd (key_inj e').1 (sne (by decide))
    | and2 _ _ e' => rw [e] at e'; exact absurd (key_inj e').1 (sne (by decide))
    | imp _ _ e' => rw [e] at e'; exact absurd (key_inj e').1 (sne (by decide))
    | or2 z1 z2 e' => rw [e] at e'
                      obtain ⟨_, h2, _⟩ := key_inj e'
                      cases h2
                      obtain ⟨rfl, rfl⟩ := i1 z1; obtain ⟨rfl, rfl⟩ := i2 z2; exact ⟨rfl, rfl⟩
    | or3 _ _ _ e' => rw [e] at e'; obtain ⟨_, h2, _⟩ := key_inj e'; cases h2
  | or3 _ _ _ e i1 i2 i3 =>
    intro d' F' f' y
    cases y with
    | name hk' e' => rw [e] at e'; exact absurd (key_inj e').1 (sne (by decide))
    | neg z e' => rw [e] at e'; exact absurd (key_inj e').1 (sne (by decide))
    | and2 _ _ e' => rw [e] at e'; exact absurd (key_inj e').1 (sne (by decide))
    | imp _ _ e' => rw [e] at e'; exact absurd (key_inj e').1 (sne (by decide))
    | or2 _ _ e' => rw [e] at e'; obtain ⟨_, h2, _⟩ := key_inj e'; cases h2
    | or3 z1 z2 z3 e' => rw [e] at e'
                         obtain ⟨_, h2, _⟩ := key_inj e'
                         cases h2
                         obtain ⟨rfl, rfl⟩ := i1 z1; obtain ⟨rfl, rfl⟩ := i2 z2; obtain ⟨rfl, rfl⟩ := i3 z3; exact ⟨rfl, rfl⟩
/-- how long what is told can be -/
theorem Rep.flen (x : Rep B d i F f) : F.length ≤ 3 ^ d := by
  induction x with
  | name _ _ => exact Nat.one_le_pow _ _ (by first | decide | omega)
  | neg _ _ _ => exact Nat.one_le_pow _ _ (by first | decide | omega)
  | and2 _ _ _ _ _ => exact Nat.one_le_pow _ _ (by first | decide | omega)
  | imp _ _ _ _ _ => exact Nat.one_le_pow _ _ (by first | decide | omega)
  | or2 _ _ _ i1 i2 => rw [List.length_append, Nat.pow_succ]; omega
  | or3 _ _ _ _ i1 i2 i3 => rw [List.length_append, List.length_append, Nat.pow_succ]; omega
/-- told from left to right -/
theorem Rep.flat (x : Rep B d i F f) : ∃ n, n ≤ 4 ^ (d + 1) ∧ ∀ {W F' : List Nat} {m : Nat}, Flat B W F' m → Flat B (i :: W) (F ++ F') (m + n) := by
  have one : ∀ d, 1 ≤ 4 ^ (d + 1) := fun d => Nat.one_le_pow _ _ (by first | decide | omega)
  induction x with
  | name _ e => exact ⟨1, one _, fun y => .leaf e (sne (by decide)) y⟩
  | neg _ e _ => exact ⟨1, one _, fun y => .leaf e (sne (by decide)) y⟩
  | and2 _ _ e _ _ => exact ⟨1, one _, fun y => .leaf e (sne (by decide)) y⟩
  | imp _ _ e _ _ => exact ⟨1, one _, fun y => .leaf e (sne (by decide)) y⟩
  | @or2 d a b i F F' f g _ _ e i1 i2 =>
    obtain ⟨n1, h1, y1⟩ := i1
    obtain ⟨n2, h2, y2⟩ := i2
    have := one d
    refine ⟨n2 + n1 + 1, by rw [Nat.pow_succ 4 (d + 1)]; omega, fun {W F' m} y => ?_⟩
    have := y1 (y2 y)
    rw [List.append_assoc, show m + (n2 + n1 + 1) = m + n2 + n1 + 1 by omega]
    exact .open_ e rfl rfl this
  | @or3 d a b c i F F' F'' f g h _ _ _ e i1 i2 i3 =>
    obtain ⟨n1, h1, y1⟩ := i1
    obtain ⟨n2, h2, y2⟩ := i2
    obtain ⟨n3, h3, y3⟩ := i3
    have := one d
    refine ⟨n3 + n2 + n1 + 1, by rw [Nat.pow_succ 4 (d + 1)]; omega, fun {W F' m} y => ?_⟩
    have := y1 (y2 (y3 y))
    rw [List.append_assoc, List.append_assoc, show m + (n3 + n2 + n1 + 1) = m + n3 + n2 + n1 + 1 by omega]
    exact .open_ e rfl rfl this
/-- what is told stands for the whole -/
theorem Rep.told (x : Rep B d i F f) : (∀ p ∈ F, ∃ g, Rep B d p [p] g ∧ ∃ k, B[p]? = some k ∧ k.op ≠ Str.ofString "or") ∧ ∀ r, f r = 1 ↔ ∃ p ∈ F, ∃ g, Rep B d p [p] g ∧ g r = 1 := by
  have self : ∀ {d i : Nat} {f : Nat → Nat} {k : TKey}, Rep B d i [i] f → B[i]? = some k → k.op ≠ Str.ofString "or" →
      (∀ p ∈ [i], ∃ g, Rep B d p [p] g ∧ ∃ k, B[p]? = some k ∧ k.op ≠ Str.ofString "or") ∧ ∀ r, f r = 1 ↔ ∃ p ∈ [i], ∃ g, Rep B d p [p] g ∧ g r = 1 := fun {d i f k} x e ho =>
    ⟨fun p hp => by rw [List.mem_singleton] at hp; subst hp; exact ⟨f, x, k, e, ho⟩, fun r => ⟨fun q => ⟨i, by simp, f, x, q⟩, fun ⟨p, hp, g, y, q⟩ => by
      rw [List.mem_singleton] at hp; subst hp
      rw [(x.uni y).2]; exact q⟩⟩
  induction x with
  | name hk e => exact self (.name hk e) e (sne (by decide))
  | neg x e _ => exact self (.neg x e) e (sne (by decide))
  | and2 x y e _ _ => exact self (.and2 x y e) e (sne (by decide))
  | imp x y e _ _ => exact self (.imp x y e) e (sne (by decide))
  | @or2 d a b i F F' f g x y e i1 i2 =>
    have lx := x.le1; have ly := y.le1
    refine ⟨fun p hp => ?_, fun r => ⟨fun q => ?_, fun ⟨p, hp, g0, z, q⟩ => ?_⟩⟩
    · rcases List.mem_append.mp hp with hp | hp
      · obtain ⟨g1, a, b⟩ := i1.1 p hp; exact ⟨g1, a.up, b⟩
      · obtain ⟨g1, a, b⟩ := i2.1 p hp; exact ⟨g1, a.up, b⟩
    · have := lx r; have := ly r
      dsimp only at q
      by_cases h : f r = 1
      · obtain ⟨p, hp, g1, a, b⟩ := (i1.2 r).mp h
        exact ⟨p, List.mem_append.mpr (.inl hp), g1, a.up, b⟩
      · obtain ⟨p, hp, g1, a, b⟩ := (i2.2 r).mp (by first | decide | omega)
        exact ⟨p, List.mem_append.mpr (.inr hp), g1, a.up, b⟩
    · have := lx r; have := ly r
      dsimp only
      rcases List.mem_append.mp hp with hp | hp
      · obtain ⟨g', a, b⟩ := i1.1 p hp
        have := (i1.2 r).mpr ⟨p, hp, g', a, by rw [(a.uni z).2]; exact q⟩
        omega
      · obtain ⟨g', a, b⟩ := i2.1 p hp
        have := (i2.2 r).mpr ⟨p, hp, g', a, by rw [(a.uni z).2]; exact q⟩
        omega
  | @or3 d a b c i F F' F'' f g k x y w e i1 i2 i3 =>
    have lx := x.le1; have ly := y.le1; have lw := w.le1
    refine ⟨fun p hp => ?_, fun r => ⟨fun q => ?_, fun ⟨p, hp, g0, z, q⟩ => ?_⟩⟩
    · rcases List.mem_append.mp hp with hp | hp
      · obtain ⟨g1, a, b⟩ := i1.1 p hp; exact ⟨g1, a.up, b⟩
      · rcases List.mem_append.mp hp with hp | hp
        · obtain ⟨g1, a, b⟩ := i2.1 p hp; exact ⟨g1, a.up, b⟩
        · obtain ⟨g1, a, b⟩ := i3.1 p hp; exact ⟨g1, a.up, b⟩
    · have := lx r; have := ly r; have := lw r
      dsimp only at q
      by_cases h : f r = 1
      · obtain ⟨p, hp, g1, a, b⟩ := (i1.2 r).mp h
        exact ⟨p, List.mem_append.mpr (.inl hp), g1, a.up, b⟩
      · by_cases h2 : g r = 1
        · obtain ⟨p, hp, g1, a, b⟩ := (i2.2 r).mp h2
          exact ⟨p, List.mem_append.mpr (.inr (List.mem_append.mpr (.inl hp))), g1, a.up, b⟩
        · obtain ⟨p, hp, g1, a, b⟩ := (i3.2 r).mp (by first | decide | omega)
          exact ⟨p, List.mem_append.mpr (.inr (List.mem_append.mpr (.inr hp))), g1, a.up, b⟩
    · have := lx r; have := ly r; have := lw r
      dsimp only
      rcases List.mem_append.mp hp with hp | hp
      · obtain ⟨g', a, b⟩ := i1.1 p hp
        have := (i1.2 r).mpr ⟨p, hp, g', a, by rw [(a.uni z).2]; exact q⟩
        omega
      · rcases List.mem_append.mp hp with hp | hp
        · obtain ⟨g', a, b⟩ := i2.1 p hp
          have := (i2.2 r).mpr ⟨p, hp, g', a, by rw [(a.uni z).2]; exact q⟩
          omega
        · obtain ⟨g', a, b⟩ := i3.1 p hp
          have := (i3.2 r).mpr ⟨p, hp, g', a, by rw [(a.uni z).2]; exact q⟩
          omega
end
/-! the bank as the law meets it -/
def B0 : List TKey := [⟨Str.ofString "", ci [], 0⟩, ⟨Str.ofString "true", ci [], 0⟩, ⟨Str.ofString "false", ci [], 0⟩, ⟨Str.ofString "app", ci [], 0⟩, ⟨Str.ofString "app", ci [], 1⟩, ⟨Str.ofString "app", ci [], 2⟩, ⟨Str.ofString "app", ci [], 3⟩]
section
variable {B B' : List TKey} {d i : Nat} {F : List Nat} {f : Nat → Nat}
theorem B0.names (p : B0 <+: B) : ∀ k : Nat, k < 4 → B[3 + k]? = some ⟨Str.ofString "app", ci [], (k : Nat)⟩ := fun k hk => pre_get p (by
  match k, hk with
  | 0, _ => rfl
  | 1, _ => rfl
  | 2, _ => rfl
  | 3, _ => rfl)
theorem B0.low (p : B0 <+: B) {k : TKey} (hi : i < 3) (e : B[i]? = some k) : k.op = Str.ofString "" ∨ k.op = Str.ofString "true" ∨ k.op = Str.ofString "false" := by
  match i, hi with
  | 0, _ => rw [pre_get p (show B0[0]? = some _ from rfl)] at e; cases e; exact .inl rfl
  | 1, _ => rw [pre_get p (show B0[1]? = some _ from rfl)] at e; cases e; exact .inr (.inl rfl)
  | 2, _ => rw [pre_get p (show B0[2]? = some _ from rfl)] at e; cases e; exact .inr (.inr rfl)
theorem Rep.ge3 (p : B0 <+: B) (x : Rep B d i F f) : 3 ≤ i := by
  have key : ∀ {o : Str} {as : List Int} {z : Int}, B[i]? = some ⟨o, as, z⟩ → o ≠ Str.ofString "" → o ≠ Str.ofString "true" → o ≠ Str.ofString "false" → 3 ≤ i := fun {o as z} e a b c => by
    rcases Nat.lt_or_ge i 3 with h | h
    · rcases B0.low p h e with q | q | q
      · exact absurd q a
      · exact absurd q b
      · exact absurd q c
    · exact h
  cases x with
  | name _ _ => omega
  | neg _ e => exact key e (sne (by decide)) (sne (by decide)) (sne (by decide))
  | and2 _ _ e => exact key e (sne (by decide)) (sne (by decide)) (sne (by decide))
  | imp _ _ e => exact key e (sne (by decide)) (sne (by decide)) (sne (by decide))
  | or2 _ _ e => exact key e (sne (by decide)) (sne (by decide)) (sne (by decide))
  | or3 _ _ _ e => exact key e (sne (by decide)) (sne (by decide)) (sne (by decide))
theorem Rep.nots (x : Rep B d i F f) {k : TKey} (e : B[i]? = some k) : k.op = Str.ofString "not" → ∃ (a d' : Nat) (F' : List Nat) (f' : Nat → Nat), k.args = ci [a] ∧ Rep B d' a F' f' ∧ d = d' + 1 ∧ f = fun r => 1 - f' r := by
  intro ho
  cases x with
  | name _ q => rw [q] at e; cases e; exact absurd ho (sne (by decide))
  | neg y q => rw [q] at e; cases e; exact ⟨_, _, _, _, rfl, y, rfl, rfl⟩
  | and2 _ _ q => rw [q] at e; cases e; exact absurd ho (sne (by decide))
  | imp _ _ q => rw [q] at e; cases e; exact absurd ho (sne (by decide))
  | or2 _ _ q => rw [q] at e; cases e; exact absurd ho (sne (by decide))
  | or3 _ _ _ q => rw [q] at e; cases e; exact absurd ho (sne (by decide))
theorem Rep.nor (x : Rep B d i F f) {k : TKey} (e : B[i]? = some k) (ho : k.op ≠ Str.ofString "or") : F = [i] := by
  cases x with
  | name _ q => rfl
  | neg y q => rfl
  | and2 _ _ q => rfl
  | imp _ _ q => rfl
  | or2 _ _ q => rw [q] at e; cases e; exact absurd rfl ho
  | or3 _ _ _ q => rw [q] at e; cases e; exact absurd rfl ho
theorem NotR.pre {k : TKey} {j i : Nat} (N : NotR B k j i B') : B <+: B' := by
  rcases N with ⟨-, rfl, -⟩ | ⟨-, M⟩
  · exact List.prefix_rfl
  · exact M.pre
theorem NotR.len {k : TKey} {j i : Nat} (N : NotR B k j i B') : B'.length ≤ B.length + 1 := by
  rcases N with ⟨-, rfl, -⟩ | ⟨-, M⟩
  · omega
  · exact M.len
theorem NotR.rep {k : TKey} {j : Nat} (N : NotR B k j i B') (x : Rep B d j F f) (e : B[j]? = some k) : ∃ F', Rep B' (d + 1) i F' (fun r => 1 - f r) := by
  rcases N with ⟨ho, rfl, ea⟩ | ⟨-, M⟩
  · obtain ⟨a, d', F', f', ka, y, rfl, rfl⟩ := x.nots e ho
    rw [ka] at ea
    have := ci_inj ea
    cases this
    refine ⟨F', ?_⟩
    have e2 : (fun r => 1 - (1 - f' r)) = f' := by funext r; have := y.le1 r; omega
    rw [e2]
    exact y.up.up
  · exact ⟨_, .neg (x.mono M.pre) M.2.1⟩
/-- the new ones are no or's -/
theorem NotR.news {k : TKey} {j : Nat} (N : NotR B k j i B') : ∀ (p : Nat) (q : TKey), B'[p]? = some q → q.op = Str.ofString "or" → B[p]? = some q := by
  intro p q e ho
  rcases N with ⟨-, rfl, -⟩ | ⟨-, M⟩
  · exact e
  · rcases M.2.2 with rfl | ⟨-, rfl⟩
    · exact e
    · rcases get_snoc e with e | ⟨-, rfl⟩
      · exact e
      · exact absurd ho (sne (by decide))
theorem Made.news {o : Str} {as : List Int} {z : Int} (M : Made B ⟨o, as, z⟩ i B') (hne : o ≠ Str.ofString "or") : ∀ (p : Nat) (q : TKey), B'[p]? = some q → q.op = Str.ofString "or" → B[p]? = some q := by
  intro p q e ho
  rcases M.2.2 with rfl | ⟨-, rfl⟩
  · exact e
  · rcases get_snoc e with e | ⟨-, rfl⟩
    · exact e
    · exact absurd ho hne
theorem Made.again {G : Gl} {γ : Pm} {o : BO} {B2 : List TKey} {k : TKey} {i2 : Nat} (H : BR G γ o B2) (M : Made B k i B') (M2 : Made B' k i2 B2) : i2 = i ∧ B2 = B' := by
  have e : i2 = i := H.uni M2.1 M.1 M2.2.1 (pre_get M2.pre M.2.1)
  refine ⟨e, ?_⟩
  rcases M2.2.2 with q | ⟨q, -⟩
  · exact q
  · have := M.2.1
    rw [← e, q, List.getElem?_eq_none (Nat.le_refl _)] at this; cases this
theorem Rep.lt (x : Rep B d i F f) : i < B.length := by
  obtain ⟨k, e⟩ := x.at_
  by_cases q : i < B.length
  · exact q
  · rw [List.getElem?_eq_none (by first | decide | omega)] at e; cases e
end
/-! parts -/
structure Pt where
  i : Nat
  F : List Nat
  f : Nat → Nat
abbrev PtR (B : List TKey) (d : Nat) (p : Pt) : Prop := Rep B d p.i p.F p.f
abbrev col (f : Nat → Nat) : List Nat := (List.range 16).map f
def PartV (γ : Pm) (v : Value) (p : Pt) : Prop := ∃ r t a1 a2 e0 vs1 e1 vs2 e2, v = .ref r ∧ γ r = some (tu [.int (p.i : Nat) t, .ref a1, .ref a2] e0) ∧ γ a1 = some (lo vs1 e1) ∧ Nats vs1 p.F ∧ γ a2 = some (lo vs2 e2) ∧ Nats vs2 (col p.f)
theorem PartV.sub {γ γ' : Pm} {v : Value} {p : Pt} (s : Sub γ γ') : PartV γ v p → PartV γ' v p
  | ⟨r, t, a1, a2, e0, vs1, e1, vs2, e2, q0, q1, q2, q3, q4, q5⟩ => ⟨r, t, a1, a2, e0, vs1, e1, vs2, e2, q0, s _ _ q1, s _ _ q2, q3, s _ _ q4, q5⟩
inductive PartsV (γ : Pm) : List Value → List Pt → Prop
  | nil : PartsV γ [] []
  | cons {v : Value} {p : Pt} {vs : List Value} {ps : List Pt} : PartV γ v p → PartsV γ vs ps → PartsV γ (v :: vs) (p :: ps)
theorem PartsV.sub {γ γ' : Pm} {vs : List Value} {ps : List Pt} (s : Sub γ γ') (x : PartsV γ vs ps) : PartsV γ' vs ps := by
  induction x with
  | nil => exact .nil
  | cons a _ ih => exact .cons (a.sub s) ih
theorem PartsV.snoc {γ : Pm} {vs : List Value} {ps : List Pt} {v : Value} {p : Pt} (x : PartsV γ vs ps) (y : PartV γ v p) : PartsV γ (vs ++ [v]) (ps ++ [p]) := by
  induction x with
  | nil => exact .cons y .nil
  | cons a _ ih => exact .cons a ih
theorem PartsV.len {γ : Pm} {vs : List Value} {ps : List Pt} (x : PartsV γ vs ps) : vs.length = ps.length := by
  induction x with
  | nil => rfl
  | cons _ _ ih => simp [ih]
theorem PartsV.get {γ : Pm} {vs : List Value} {ps : List Pt} (x : PartsV γ vs ps) : ∀ {i : Nat} {v : Value}, vs[i]? = some v → ∃ p, ps[i]? = some p ∧ PartV γ v p := by
  induction x with
  | nil => intro i v e; simp at e
  | cons a _ ih =>
    intro i v e
    cases i with
    | zero => simp at e; subst e; exact ⟨_, rfl, a⟩
    | succ i => simpa using ih (by simpa using e)
/-- lists of the numbers of each row -/
def Cols (γ : Pm) (ys : List Value) (n : Nat) (g : Nat → List Nat) : Prop := ys.length = n ∧ ∀ r, r < n → ∃ a us e, ys[r]? = some (.ref a) ∧ γ a = some (lo us e) ∧ Nats us (g r)
theorem Cols.sub {γ γ' : Pm} {ys : List Value} {n : Nat} {g : Nat → List Nat} (s : Sub γ γ') (x : Cols γ ys n g) : Cols γ' ys n g := ⟨x.1, fun r h => let ⟨a, us, e, p, q, z⟩ := x.2 r h; ⟨a, us, e, p, s _ _ q, z⟩⟩
theorem Cols.snoc {γ : Pm} {ys : List Value} {n : Nat} {g : Nat → List Nat} {a : Addr} {us : List Value} {e : Nat} (x : Cols γ ys n g) (h : γ a = some (lo us e)) (z : Nats us (g n)) : Cols γ (ys ++ [.ref a]) (n + 1) g := by
  refine ⟨by simp [x.1], fun r hr => ?_⟩
  by_cases q : r < n
  · obtain ⟨b, vs, e', p, y, w⟩ := x.2 r q
    exact ⟨b, vs, e', by rw [List.getElem?_append_left (by rw [x.1]; exact q)]; exact p, y, w⟩
  · have : r = n := by omega
    subst this
    exact ⟨a, us, e, by rw [List.getElem?_append_right (by rw [x.1]; exact Nat.le_refl _), x.1]; simp, h, z⟩
/-! what is told of the or's -/
theorem va_stored {K : Type} [DecidableEq K] {kvs : List (K × Value)} {k k' : K} {v : Value} : valueAt (stored kvs k v) k' = if k' = k then some v else valueAt kvs k' := by
  unfold stored valueAt
  by_cases h : kvs.any (fun kv => decide (kv.1 = k)) = true
  · rw [if_pos h]
    induction kvs with
    | nil => simp at h
    | cons p r ih =>
      obtain ⟨a, b⟩ := p
      by_cases ha : a = k
      · subst ha
        by_cases hk : k' = a
        · subst hk; simp
        · have hk2 : ¬ a = k' := fun q => hk q.symm
          simp only [List.map_cons, if_true, List.find?_cons, decide_eq_false hk2, if_neg hk]
          by_cases hr : r.any (fun kv => decide (kv.1 = a)) = true
          · have := ih hr
            rw [if_neg hk] at this
            exact this
          · have e : r.map (fun kv => if kv.1 = a then (kv.1, v) else kv) = r := by
              refine (List.map_congr_left fun q hq => ?_).trans (List.map_id r)
              have : ¬ q.1 = a := fun z => hr (List.any_eq_true.mpr ⟨q, hq, by simpa using z⟩)
              simp [this]
            rw [e]
      · have hr : r.any (fun kv => decide (kv.1 = k)) = true := by simpa [ha] using h
        have := ih hr
        simp only [List.map_cons, if_neg ha, List.find?_cons]
        by_cases hk : a = k'
        · subst hk; simp [ha]
        · rw [decide_eq_false hk]; exact this
  · rw [if_neg h, List.find?_append]
    by_cases hk : k' = k
    · subst hk
      have : kvs.find? (fun kv => decide (kv.1 = k')) = none := by
        rw [List.find?_eq_none]
        intro x hx q
        exact h (List.any_eq_true.mpr ⟨x, hx, q⟩)
      rw [this]; simp
    · have hk2 : ¬ k = k' := fun q => hk q.symm
      rw [if_neg hk]
      cases hf : kvs.find? (fun kv => decide (kv.1 = k')) with
      | none => simp [hk2]
      | some x => simp
theorem stored_old {K : Type} [DecidableEq K] {kvs : List (K × Value)} {k : K} {v : Value} (h : (valueAt kvs k).isSome = true) : (stored kvs k v).length = kvs.length := by
  unfold stored
  rw [if_pos]
  · simp
  · unfold valueAt at h
    rw [Option.isSome_map] at h
    obtain ⟨x, hx⟩ := Option.isSome_iff_exists.mp h
    exact List.any_eq_true.mpr ⟨x, List.mem_of_find?_eq_some hx, by have := List.find?_some hx; exact this⟩
structure OpenedR (G : Gl) (γ : Pm) (oO : Obj) (B : List TKey) (kvs : List (Int × Value)) : Prop where
  dict : oO.IsDictOf (Ikd G) kvs
  len : kvs.length ≤ B.length
  told : ∀ (k : Int) (v : Value), valueAt kvs k = some v → ∃ (i d : Nat) (F : List Nat) (f : Nat → Nat) (a : Addr) (vs : List Value) (e : Nat), k = (i : Nat) ∧ v = .ref a ∧ γ a = some (lo vs e) ∧ Nats vs F ∧ Rep B d i F f
  all : ∀ (i : Nat) (k : TKey), B[i]? = some k → k.op = Str.ofString "or" → (valueAt kvs (i : Nat)).isSome = true
section
variable {G : Gl} {γ γ' : Pm} {oO : Obj} {B B' : List TKey} {kvs : List (Int × Value)}
theorem OpenedR.sub (s : Sub γ γ') (x : OpenedR G γ oO B kvs) : OpenedR G γ' oO B kvs where
  dict := x.dict
  len := x.len
  told := fun k v h => let ⟨i, d, F, f, a, vs, e, p, q, r, t, u⟩ := x.told k v h; ⟨i, d, F, f, a, vs, e, p, q, s _ _ r, t, u⟩
  all := x.all
theorem OpenedR.mono (x : OpenedR G γ oO B kvs) (p : B <+: B') (n : ∀ (i : Nat) (k : TKey), B'[i]? = some k → k.op = Str.ofString "or" → B[i]? = some k) : OpenedR G γ oO B' kvs where
  dict := x.dict
  len := Nat.le_trans x.len p.length_le
  told := fun k v h => let ⟨i, d, F, f, a, vs, e, p1, q, r, t, u⟩ := x.told k v h; ⟨i, d, F, f, a, vs, e, p1, q, r, t, u.mono p⟩
  all := fun i k e ho => x.all i k (n i k e ho) ho
theorem OpenedR.set (x : OpenedR G γ oO B kvs) {as : List Int} {z : Int} {i d : Nat} {F : List Nat} {f : Nat → Nat} {a : Addr} {vs : List Value} {e : Nat} (M : Made B ⟨Str.ofString "or", as, z⟩ i B') (r : Rep B' d i F f) (ha : γ a = some (lo vs e)) (hv : Nats vs F) {oO' : Obj}
    (hd : oO'.IsDictOf (Ikd G) (stored kvs (i : Nat) (.ref a))) : OpenedR G γ oO' B' (stored kvs (i : Nat) (.ref a)) where
  dict := hd
  len := by
    rcases M.2.2 with rfl | ⟨-, rfl⟩
    · rw [stored_old (x.all i _ M.2.1 rfl)]; exact x.len
    · have := stored_length_le kvs (i : Nat) (.ref a)
      have := x.len
      rw [List.length_append]; simp; omega
  told := fun k v h => by
    rw [va_stored] at h
    by_cases hk : k = (i : Nat)
    · rw [if_pos hk] at h; cases h
      exact ⟨i, d, F, f, a, vs, e, hk, rfl, ha, hv, r⟩
    · rw [if_neg hk] at h
      obtain ⟨i', d', F', f', a', vs', e', p1, q, r', t, u⟩ := x.told k v h
      exact ⟨i', d', F', f', a', vs', e', p1, q, r', t, u.mono M.pre⟩
  all := fun j k hj ho => by
    rw [va_stored]
    by_cases hk : ((j : Nat) : Int) = (i : Nat)
    · rw [if_pos hk]; rfl
    · rw [if_neg hk]
      rcases M.2.2 with rfl | ⟨e1, rfl⟩
      · exact x.all j k hj ho
      · rcases get_snoc hj with hj | ⟨e2, -⟩
        · exact x.all j k hj ho
        · exact absurd (by rw [e2, e1]) hk
theorem OpenedR.got (x : OpenedR G γ oO B kvs) {i d : Nat} {F : List Nat} {f : Nat → Nat} (r : Rep B d i F f) : (∃ a vs e, valueAt kvs (i : Nat) = some (.ref a) ∧ γ a = some (lo vs e) ∧ Nats vs F) ∨ (valueAt kvs (i : Nat) = none ∧ F = [i]) := by
  cases h : valueAt kvs (i : Nat) with
  | some v =>
    obtain ⟨i', d', F', f', a, vs, e, p, rfl, q, t, u⟩ := x.told _ _ h
    have : i = i' := by omega
    subst this
    exact .inl ⟨a, vs, e, rfl, q, (u.uni r).1 ▸ t⟩
  | none =>
    obtain ⟨k, hk⟩ := r.at_
    refine .inr ⟨rfl, r.nor hk fun ho => ?_⟩
    have := x.all i k hk ho
    rw [h] at this; cases this
end
/-! one entry taken out of the ledger -/
inductive RemL (p : Addr × Obj) : Led → Led → Prop
  | head {r : Led} : RemL p (p :: r) r
  | tail {q : Addr × Obj} {r r' : Led} : RemL p r r' → RemL p (q :: r) (q :: r')
theorem RemL.perm {p : Addr × Obj} {l l' : Led} (u : RemL p l l') : l.Perm (p :: l') := by
  induction u with
  | head => exact .refl _
  | tail _ ih => exact (ih.cons _).trans (List.Perm.swap _ _ _)
theorem St.frzR {G : Gl} {an : An} {γ : Pm} {L : Addr} {m : Mp} {led led' : Led} {h : Heap} {a : Addr} {o : Obj} (S : St G an γ L m led h) (u : RemL (a, o) led led') (ha : an.h0.objs.size ≤ a) : ∃ γ', Sub γ γ' ∧ γ' a = some o ∧ St G an γ' L m led' h := (S.perm u.perm).frz ha
local macro_rules | `(tactic| wtm_at "r") => `(tactic| first | exact RemL.head | exact RemL.tail (by wtm_at "r"))
/-! numbers -/
theorem ci_mem {x : Int} {ns : List Nat} : x ∈ ci ns ↔ ∃ n ∈ ns, x = (n : Nat) := by
  unfold ci
  rw [List.mem_map]
  exact ⟨fun ⟨n, h, e⟩ => ⟨n, h, e.symm⟩, fun ⟨n, h, e⟩ => ⟨n, h, e.symm⟩⟩
theorem col_at {f : Nat → Nat} {r : Nat} (h : r < 16) : (col f)[r]? = some (f r) := by simp [h]
theorem col_snoc {f : Nat → Nat} {r : Nat} (h : r < 16) : (col f).take (r + 1) = (col f).take r ++ [f r] := by rw [List.take_add_one, col_at h]; rfl
/-! what is made for good by a call; what is lent to one -/
structure News (h : Heap) (γ' : Pm) (ne : Led) (h' : Heap) : Prop where
  at_ : ∀ p ∈ ne, h.objs.size ≤ p.1 ∧ γ' p.1 = none ∧ h'.get? p.1 = some p.2
  nd : (ne.map (·.1)).Nodup
section
variable {G : Gl} {A : Around} {h : Heap} {an : An} {γ : Pm} {L : Addr} {m : Mp} {led : Led}
theorem St.news {ne cs' : Led} (S : St G an γ L m (ne ++ cs') h) (hm : an.mt = cs'.map (·.1)) : News an.h0 γ ne h where
  at_ := fun p hp => by
    obtain ⟨a, b, c⟩ := S.nw p (List.mem_append.mpr (.inl hp))
    refine ⟨c.resolve_left fun q => ?_, b, a⟩
    rw [hm] at q
    have n2 := (List.nodup_cons.mp S.nd).2
    rw [List.map_append] at n2
    exact (List.nodup_append.mp n2).2.2 _ (List.mem_map_of_mem hp) _ q rfl
  nd := by
    have n2 := (List.nodup_cons.mp S.nd).2
    rw [List.map_append] at n2
    exact (List.nodup_append.mp n2).1
theorem St.afterN {γ' : Pm} {xs cs cs' ne : Led} {h' : Heap} (S : St G an γ L m (xs ++ cs) h) (P : Post γ h (cs.map (·.1)) γ' h')
    (hc : cs'.map (·.1) = cs.map (·.1)) (at' : ∀ p ∈ cs', h'.get? p.1 = some p.2) (N : News h γ' ne h') : St G an γ' L m (ne ++ (xs ++ cs')) h' := by
  have S1 := S.after P hc at'
  have old : ∀ a ∈ (xs ++ cs').map (·.1), a < h.objs.size := fun a ha => by
    rw [List.map_append, hc, ← List.map_append] at ha
    obtain ⟨p, hp, e⟩ := List.mem_map.mp ha
    exact e ▸ get_lt (S.nw p hp).1
  exact { S1 with
    nw := fun p hp => by
      rcases List.mem_append.mp hp with hp | hp
      · obtain ⟨a, b, c⟩ := N.at_ p hp
        exact ⟨c, b, .inr (Nat.le_trans S.up a)⟩
      · exact S1.nw p hp
    nd := by
      obtain ⟨n1, n2⟩ := List.nodup_cons.mp S1.nd
      rw [List.map_append]
      refine List.nodup_cons.mpr ⟨fun q => ?_, List.nodup_append.mpr ⟨N.nd, n2, fun a ha b hb e => ?_⟩⟩
      · rcases List.mem_append.mp q with q | q
        · obtain ⟨p, hp, e⟩ := List.mem_map.mp q
          have := (N.at_ p hp).1
          have hL := S.ns.lt
          rw [e] at this
          exact absurd hL (Nat.not_lt.mpr this)
        · exact n1 q
      · obtain ⟨p, hp, e'⟩ := List.mem_map.mp ha
        have h1 := (N.at_ p hp).1
        have h2 := old b hb
        rw [e', e] at h1
        exact absurd h2 (Nat.not_lt.mpr h1) }
def del (γ : Pm) (d : Addr) : Pm := fun a => if a = d then none else γ a
theorem del_ne {d a : Addr} (e : a ≠ d) : del γ d a = γ a := if_neg e
theorem St.lend {d : Addr} {o : Obj} {xs cs : Led} (S : St G an γ L m (xs ++ cs) h) (hd : (d, o) ∈ xs) : Sit G (ins γ d o) cs h where
  base := fun a x e => Sub.ins (S.nw _ (List.mem_append.mpr (.inl hd))).2.1 _ _ (S.base a x e)
  on := fun a x e => by
    unfold ins at e
    by_cases q : a = d
    · subst q; rw [if_pos rfl] at e; cases e; exact (S.nw _ (List.mem_append.mpr (.inl hd))).1
    · rw [if_neg q] at e; exact S.on a x e
  at_ := fun p hp => by
    have z := S.nw p (List.mem_append.mpr (.inr hp))
    refine ⟨z.1, ?_⟩
    have n2 := (List.nodup_cons.mp S.nd).2
    rw [List.map_append] at n2
    have : p.1 ≠ d := fun q => (List.nodup_append.mp n2).2.2 _ (List.mem_map_of_mem hd) _ (List.mem_map_of_mem hp) q.symm
    unfold ins; rw [if_neg this]; exact z.2.1
  nd := by
    have n2 := (List.nodup_cons.mp S.nd).2
    rw [List.map_append] at n2
    exact (List.nodup_append.mp n2).2.1
theorem Post.back {d : Addr} {o : Obj} {mt : List Addr} {γ'' : Pm} {h' : Heap} (P : Post (ins γ d o) h mt γ'' h') (hg : γ d = none) : Post γ h mt (del γ'' d) h' where
  sub := fun a x e => by
    have : a ≠ d := fun q => by rw [q, hg] at e; cases e
    rw [del_ne this]
    exact P.sub a x (by unfold ins; rw [if_neg this]; exact e)
  gro := fun a x e => by
    unfold del at e
    by_cases q : a = d
    · rw [if_pos q] at e; cases e
    · rw [if_neg q] at e
      rcases P.gro a x e with z | z
      · unfold ins at z; rw [if_neg q] at z; exact .inl z
      · exact .inr z
  on := fun a x e => by
    unfold del at e
    by_cases q : a = d
    · rw [if_pos q] at e; cases e
    · rw [if_neg q] at e; exact P.on a x e
  ext := P.ext
  up := P.up
theorem tu_ne_dict {vs : List Value} {n n2 : Nat} {es : List DictEntry} (e : tu vs n = dictOf es n2) : False := by
  have := congrArg Obj.data e
  cases this
theorem TupI.del {d a : Addr} {ns : List Int} {es : List DictEntry} {n : Nat} (e : γ d = some (dictOf es n)) : TupI γ a ns → TupI (Mine.del γ d) a ns
  | ⟨vs, k, q, i⟩ => ⟨vs, k, by rw [del_ne fun z => by subst z; rw [e] at q; exact tu_ne_dict (Option.some.inj q).symm]; exact q, i⟩
theorem KeyAt.del {d a : Addr} {k : TKey} {es : List DictEntry} {n : Nat} (e : γ d = some (dictOf es n)) : KeyAt γ k a → KeyAt (Mine.del γ d) k a
  | ⟨t1, c, t3, t4, j, q, i⟩ => ⟨t1, c, t3, t4, j, by rw [del_ne fun z => by subst z; rw [e] at q; exact tu_ne_dict (Option.some.inj q).symm]; exact q, i.del e⟩
theorem BR.del {o : BO} {B : List TKey} {d : Addr} {es : List DictEntry} {n : Nat} (R : BR G γ o B) (e : γ d = some (dictOf es n)) : BR G (Mine.del γ d) o B where
  l1 := R.l1
  l2 := let ⟨vs, k, a, b, c⟩ := R.l2; ⟨vs, k, a, b, fun i k q => let ⟨x, y, z⟩ := c i k q; ⟨x, y, z.del e⟩⟩
  l3 := R.l3
  l4 := R.l4
  tab := let ⟨xs, ⟨a, es', ep, b, c, k, n⟩, r⟩ := R.tab; ⟨xs, ⟨a, es', ep, b, c, fun x hx => (k x hx).del e, n⟩, r⟩
/-- an attribute set, by its place in the ledger -/
theorem l_attr (D : Gd G) {b C d : Addr} {x : Str} {v : Value} {es : List DictEntry} {n : Nat} {kvs : List (Str × Value)} {ld : Obj → Led} {Q : Unit → Heap → Prop} (S : St G an γ L m led h) (hb : γ b = some (instObj C d)) (u : ∀ o', UpdL d (dictOf es n) o' led (ld o')) (E : Es G.w es kvs)
    (r : settable (KF G.w.params) C x = true) (hv : valueAt kvs x = none) (hz : kvs.length ≤ 100)
    (q : ∀ es' n' h', Es G.w es' (kvs ++ [(x, v)]) → St G an γ L m (ld (dictOf es' n')) h' → Q () h') : WP G A (setAttr (.ref b) x v) Q h :=
  a_set D S hb (u (dictOf es n)).mem E r hv hz fun es' n' h' E' S' => q es' n' h' E' (S'.chgL (u (dictOf es' n')) S.nd)
theorem m_getH (D : Gd G) {b C f d : Addr} {x : Str} {pl : Sem Bool} {es : List DictEntry} {n : Nat} {kvs : List (Str × Value)} {Q : Value × List Value → Heap → Prop} (S : St G an γ L m led h) (hb : γ b = some (instObj C d)) (hm : (d, dictOf es n) ∈ led) (E : Es G.w es kvs) (r : hasMeth (KF G.w.params) C f x = true) (hv : valueAt kvs x = none)
    (q : Q (.ref f, [.ref b]) h) : WP G A (getMethod (.ref b) x pl) Q h := .mk fun tk => by
  unfold hasMeth at r
  simp only [Bool.and_eq_true, beq_iff_eq] at r
  obtain ⟨⟨r1, r2⟩, r3⟩ := r
  exact method_fn (s := sh G h tk) (S.kin D) (inst_at (S.get hb) (S.led_get hm)) (plainGet_of r1).1 (plainGet_of r1).2 r2 (beq_iff_eq.mp r3) (by show (lookIn x (dictOf es n)).map _ = _; rw [lookIn_dict, E.get, hv]; rfl) (Po.intro tk q)
theorem c_tupleT {a : Addr} {vs : List Value} {e : Nat} {Q : Value → Heap → Prop} (ha : h.get? a = some (tu vs e)) (q : Q (.ref a) h) : WP G A (call (.type "tuple") [.ref a]) Q h := .mk fun tk =>
  call_tuple_same (s := sh G h tk) ⟨_, ha, rfl, _, rfl⟩ (Po.intro tk q)
end
section
variable {G : Gl} {A : Around} {h : Heap} {γ : Pm} {cs : Led}
/-- call_def, with what the frame starts from -/
theorem call_defA (D : Gd G) (T : Sit G γ cs h) {st : Stmt} {nm ql : Str} {pm cd : Value} {f : Addr} {vals : List Value} {binds : List (Str × Value)} {R : Value → Heap → Prop} {n : Nat} (hr : Room A (n + 1))
    (ho : (KF G.w.params).lookup f = some (fnO st nm ql pm cd)) (hcd : codeIn (KF G.w.params) cd ql = true) (hbind : bindArgs (fnD st nm ql pm cd) ⟨vals, []⟩ = Pure.pure binds)
    (hcell : ∀ x ∈ (fSco st).names, x.2 ≠ .cell) (hloc : ∀ x ∈ binds, (fSco st).names.lookup x.1 = some .local)
    (hco : (fSco st).isCoroutine = false) (hgen : (fSco st).isGenerator = false) (hk : (fSco st).kind = .function)
    (body : ∀ an L h₁ en A', an.mt = cs.map (·.1) → an.h0 = h → EOk (fSco st) en L → Room A' n → (∀ γ' m' led' h', St G an γ' L m' led' h' → Post γ h (cs.map (·.1)) γ' h') →
      St G an γ L (puts (fun _ => none) binds) cs h₁ → WP G A' (execs (fBod st) en) (fun fl h' => R (match fl with | .ret v => v | _ => .none) h') h₁) :
    CD G A (.call (.ref f) ⟨vals, []⟩) (Ret R) h := .mk fun tk => by
  have X : (KF G.w.params).In h := D.kin.keeps fun b o e => T.on _ _ (T.base b o e)
  have hk0 : ∀ b o, G.hB.get? b = some o → h.get? b = some o := fun b o e => T.on _ _ (T.base b o e)
  refine codeAny_call_def (fd := fnD st nm ql pm cd) (body := fBod st) (binds := binds) (by have := hr.d; omega) (X _ _ ho) rfl (D.top.nolimit.keeps hk0) (codeRec_of X hcd) rfl (BindsTo.of_eq hbind) hcell hloc (fun h₀ hns hk₁ => ?_) hco hgen hk
  have S : St G ⟨γ, h, cs.map (·.1)⟩ γ h.objs.size (fun x => binds.reverse.lookup x) cs h₀ := {
    base := T.base
    sub := Sub.refl γ
    gro := fun a o e => .inl e
    on := fun a o e => hk₁ _ _ (T.on a o e)
    ext := fun a o e _ => hk₁ _ _ e
    ns := hns
    gL := by
      cases q : γ h.objs.size with
      | none => rfl
      | some o => exact absurd (get_lt (T.on _ _ q)) (Nat.lt_irrefl _)
    hL := Nat.le_refl _
    nw := fun p hp => ⟨hk₁ _ _ (T.at_ p hp).1, (T.at_ p hp).2, .inl (List.mem_map_of_mem hp)⟩
    nd := List.nodup_cons.mpr ⟨fun q => by
      obtain ⟨p, hp, e⟩ := List.mem_map.mp q
      exact absurd (e ▸ get_lt (T.at_ p hp).1) (Nat.lt_irrefl _), T.nd⟩ }
  rw [puts_eq] at S
  refine wpAny_mono ((body _ _ h₀ _ _ rfl rfl ⟨rfl, rfl, rfl, rfl, hk⟩ hr.deeper (fun _ _ _ _ S' => S'.post) S).run (tk + binds.length)) (fun fl s' ⟨h', t', e, q⟩ => ⟨_, h', t', rfl, e, _, rfl, q⟩) fun _ _ e => e.elim
end
theorem PartsV.segs {γ : Pm} {vs : List Value} {ps : List Pt} (x : PartsV γ vs ps) : ∃ segs : List (List Value), segs.length = vs.length ∧ Nats segs.flatten (ps.map (·.F)).flatten ∧
    ∀ (i : Nat) (v : Value), vs[i]? = some v → ∃ t a b c e0 us e, v = .ref t ∧ γ t = some (tu [a, .ref b, c] e0) ∧ γ b = some (lo us e) ∧ segs[i]? = some us := by
  induction x with
  | nil => exact ⟨[], rfl, .nil, fun i v e => by simp at e⟩
  | @cons v p vs ps a _ ih =>
    obtain ⟨segs, h1, h2, h3⟩ := ih
    obtain ⟨r, t, a1, a2, e0, vs1, e1, vs2, e2, q0, q1, q2, q3, q4, q5⟩ := a
    refine ⟨vs1 :: segs, by simp [h1], by simpa using q3.append h2, fun i w e => ?_⟩
    cases i with
    | zero => simp at e; subst e; exact ⟨r, _, a1, _, e0, vs1, e1, q0, q1, q2, rfl⟩
    | succ i => simpa using h3 i w (by simpa using e)
theorem flat_len {B : List TKey} {d : Nat} : ∀ {ps : List Pt}, (∀ p ∈ ps, PtR B d p) → (ps.map (·.F)).flatten.length ≤ ps.length * 3 ^ d
  | [], _ => by simp
  | p :: ps, h => by
    have h1 := Rep.flen (h p (by simp))
    have h2 := flat_len (ps := ps) fun q hq => h q (by simp [hq])
    simp only [List.map_cons, List.flatten_cons, List.length_append, List.length_cons]
    have : (ps.length + 1) * 3 ^ d = ps.length * 3 ^ d + 3 ^ d := Nat.succ_mul _ _
    omega
theorem rep_or {B B' : List TKey} {d i : Nat} {ps : List Pt} (hl : ps.length = 2 ∨ ps.length = 3) (hp : ∀ p ∈ ps, PtR B d p) (pre : B <+: B') (e : B'[i]? = some ⟨Str.ofString "or", ci (ps.map (·.i)), 0⟩) :
    ∃ f', Rep B' (d + 1) i (ps.map (·.F)).flatten f' ∧ ∀ r, f' r ∈ ps.map (fun p => p.f r) ∧ ∀ x ∈ ps.map (fun p => p.f r), x ≤ f' r := by
  match ps, hl with
  | [p, q], _ =>
    refine ⟨_, by simpa using Rep.or2 ((hp p (by simp)).mono pre) ((hp q (by simp)).mono pre) e, fun r => ⟨?_, ?_⟩⟩
    · simp; omega
    · simp; omega
  | [p, q, s], _ =>
    refine ⟨_, by simpa using Rep.or3 ((hp p (by simp)).mono pre) ((hp q (by simp)).mono pre) ((hp s (by simp)).mono pre) e, fun r => ⟨?_, ?_⟩⟩
    · simp; omega
    · simp; omega
theorem Nats.all {vs : List Value} {ns : List Nat} (x : Nats vs ns) : ∀ v ∈ vs, ∃ n t, n ∈ ns ∧ v = .int (n : Nat) t := by
  induction x with
  | nil => intro v h; cases h
  | cons _ ih =>
    intro v h
    rcases List.mem_cons.mp h with rfl | h
    · exact ⟨_, _, by simp, rfl⟩
    · obtain ⟨n, t, a, b⟩ := ih v h; exact ⟨n, t, by simp [a], b⟩
theorem parts_at {B : List TKey} {d : Nat} {ps : List Pt} (hp : ∀ p ∈ ps, PtR B d p) : ∀ i ∈ ps.map (·.i), ∃ k, B[i]? = some k := fun i hi => by
  obtain ⟨p, h, rfl⟩ := List.mem_map.mp hi
  exact (hp p h).at_
theorem best {M : Int} {ns : List Nat} {m : Nat} (h1 : M ∈ ci ns) (h2 : ∀ x ∈ ci ns, x ≤ M) (h3 : m ∈ ns) (h4 : ∀ x ∈ ns, x ≤ m) : M = (m : Nat) := by
  obtain ⟨v, hv, rfl⟩ := ci_mem.mp h1
  have a := h4 v hv
  have b := h2 _ (ci_mem.mpr ⟨m, h3, rfl⟩)
  omega
theorem least {M : Int} {ns : List Nat} {m : Nat} (h1 : M ∈ ci ns) (h2 : ∀ x ∈ ci ns, M ≤ x) (h3 : m ∈ ns) (h4 : ∀ x ∈ ns, m ≤ x) : M = (m : Nat) := by
  obtain ⟨v, hv, rfl⟩ := ci_mem.mp h1
  have a := h4 v hv
  have b := h2 _ (ci_mem.mpr ⟨m, h3, rfl⟩)
  omega
theorem exact_of {G : Gl} {o : Obj} {kvs : List (Int × Value)} (h : o.IsDictOf (Ikd G) kvs) : o.ExactDict := by
  obtain ⟨_, _, x, _⟩ := h
  exact x
section
variable {prog : Program} {w : World} {A : Around} {E : Value → Shared → Prop} {s : Shared}
/-- a name that a list does not have -/
theorem miss_list {a : Addr} {o : Obj} {xs : Array Value} {k : Nat} {name : Str} {Q : Option Value → Shared → Prop}
    (hx : s.heap.get? a = some o) (hc : o.cls = .type "list") (hdat : o.data = .seq xs k) (hd : o.dict = none) (hmiss : typeLookup (.type "list") name = Pure.pure none) (hname : (["__module__", "__name__", "__qualname__", "__doc__", "__annotations__"] : List Str).contains name = false) (hA : A.handled = none)
    (h : ∀ h' tk, (∀ b ob, s.heap.get? b = some ob → h'.get? b = some ob) → Q none { s with heap := h', toks := tk }) (hsz : name.length + 100 ≤ sizeLine) :
    wpAny (model prog w) A (getAttr? (.ref a) name) Q E s := by
  obtain ⟨c, dct, dat, sl⟩ := o
  simp only at hc hdat hd
  subst hc hdat hd
  obtain ⟨hp, g, d, tk, os⟩ := s
  have hT : ∀ tk', (⟨hp, g, d, tk', os⟩ : Shared).TypeIs (.ref a) "list" := fun _ => ⟨_, hx, rfl⟩
  have f1 := sub_AttributeError
  have f3 := PySem.F.slot_list_getattribute.lookup
  have f4 := PySem.F.slot_list_getattribute.bind (.ref a)
  have f5 := am_list_getattr_none
  unfold getAttr? getAttrBy? getAttrBy
  repeat (any_goals (first | assumption | exact hT _ | ((with_reducible show wpAny _ _ (call (Value.builtin "list.__getattribute__") _ _) _ _ _); refine call_meets PySem.F.slot_list_getattribute (hT _) am_entry_list_getattribute (PySem.F.args_list_getattribute_2 _ _) (meets_getattribute_miss_list a xs k sl name _ hmiss hname hsz) ⟨hx, hA, fun h' tk' e hx' => ?_⟩) | wp_step))
  obtain ⟨t', u', he⟩ := hx'.there
  show wpAny _ _ (getattributeRaised _ _ _ _ _ _ _) _ _ _
  unfold getattributeRaised
  repeat (any_goals (first | assumption | wp_step))
  exact h _ _ hx'.keeps
theorem sub_slice {value : Expr} {lower upper : Option Expr} {p pos : Pos} {T id : String} {env : Env} {Q : Value → Shared → Prop}
    (hl : typeLookup (.type T) "__getitem__" = Pure.pure (some (.builtin id)))
    (h : wpAny (model prog w) A (eval value env) (fun o s₁ => wpAny (model prog w) A (eval (.Slice lower upper none p) env) (fun i s₂ => s₂.TypeIs o T ∧ wpAny (model prog w) A (getItem o i) Q E s₂) E s₁) E s) :
    wpAny (model prog w) A (eval (.Subscript value (.Slice lower upper none p) pos) env) Q E s := by
  rw [eval_Subscript]
  refine wpAny_bind (wpAny_mono h (fun o s₁ h₁ => wpAny_bind (wpAny_holding (wpAny_mono h₁ (fun i s₂ h₂ => wpAny_bind (wpAny_standAt ?_)) fun _ _ x => x)))
    fun _ _ x => x)
  have fin : wpAny (model prog w) A (operate [i, o] (getItem o i)) (fun r s₃ => wpAny (model prog w) A (letTemporaryGo value o r >>= fun _ => pure r) Q E s₃) E s₂ :=
    wpAny_operating (wpAny_mono h₂.2 (fun r s₃ h₃ => wpAny_bind (wpAny_letTemporaryGo (wpAny_pure h₃))) fun _ _ x => x)
  first
    | (refine wpAny_bind ?_
       rw [getitemInPython_of_ne h₂.1.not_modules]
       refine wpAny_bind (wpAny_specialOf h₂.1 hl ?_)
       first
         | exact wpAny_pure (wpAny_bind fin)
         | exact wpAny_bind (wpAny_pure (wpAny_bind fin))
         | exact wpAny_bind fin)
    | (refine wpAny_bind (wpAny_specialOf h₂.1 hl ?_)
       first
         | exact wpAny_pure (wpAny_bind fin)
         | exact wpAny_bind (wpAny_pure (wpAny_bind fin))
         | exact wpAny_bind fin)
end
section
variable {G : Gl} {A : Around} {h : Heap} {env : Env} {an : An} {γ : Pm} {L : Addr} {m : Mp} {led : Led}
/-! slices of lists -/
theorem e_From {value : Expr} {k kk : Nat} {p0 p pos : Pos} {Q : Value → Heap → Prop}
    (x : WP G A (eval value env) (fun o h1 => ∃ a vs e γ' led', o = .ref a ∧ h1.get? a = some (lo vs e) ∧ vs.length ≤ 16000000 ∧ St G an γ' L m led' h1 ∧ ∀ r γ'' h', Sub γ' γ'' → γ'' r = some (lo (vs.drop k) 0) → St G an γ'' L m led' h' → Q (.ref r) h') h) :
    WP G A (eval (.Subscript value (.Slice (some (.Constant (.int (k : Nat)) kk p0)) none none p) pos) env) Q h := .mk fun tk => by
  refine sub_slice list_getitem_lookup (x.thn fun o h1 t1 ⟨a, vs, e, γ', led', eo, ha, hz, S, q⟩ => ?_)
  subst eo
  refine wpAny_Slice (evalPart_some_step (wpAny_Constant_int (evalPart_none_step (evalPart_none_step ?_))))
  have S1 := S.made ({ cls := .type "slice", data := .fields #[.int (k : Nat) t1, .none, .none] } : Obj) rfl
  have ha1 : (h1.push ({ cls := .type "slice", data := .fields #[.int (k : Nat) t1, .none, .none] } : Obj)).get? a = some (lo vs e) := Heap.get?_push_of_some _ ha
  refine ⟨⟨_, ha1, rfl⟩, wpAny_getItem_list_slice (s := sh G (h1.push ({ cls := .type "slice", data := .fields #[.int (k : Nat) t1, .none, .none] } : Obj)) (t1 + 1)) (lo_list ha1) (Heap.IsSliceOf.new ..) (.int _ _) .none .none (by simp) ?_ (by rw [List.size_toArray]; exact small hz)⟩
  rw [slicePick_from']
  exact Po.intro _ (q _ _ _ ((Sub.ins S.size_none).trans (Sub.ins S1.size_none)) ins_self (S1.made (lo (vs.drop k) 0) rfl))
theorem e_Upto {value : Expr} {k kk : Nat} {p0 p pos : Pos} {Q : Value → Heap → Prop}
    (x : WP G A (eval value env) (fun o h1 => ∃ a vs e γ' led', o = .ref a ∧ h1.get? a = some (lo vs e) ∧ vs.length ≤ 16000000 ∧ St G an γ' L m led' h1 ∧ ∀ r γ'' h', Sub γ' γ'' → γ'' r = some (lo (vs.take k) 0) → St G an γ'' L m led' h' → Q (.ref r) h') h) :
    WP G A (eval (.Subscript value (.Slice none (some (.Constant (.int (k : Nat)) kk p0)) none p) pos) env) Q h := .mk fun tk => by
  refine sub_slice list_getitem_lookup (x.thn fun o h1 t1 ⟨a, vs, e, γ', led', eo, ha, hz, S, q⟩ => ?_)
  subst eo
  refine wpAny_Slice (evalPart_none_step (evalPart_some_step (wpAny_Constant_int (evalPart_none_step ?_))))
  have S1 := S.made ({ cls := .type "slice", data := .fields #[.none, .int (k : Nat) t1, .none] } : Obj) rfl
  have ha1 : (h1.push ({ cls := .type "slice", data := .fields #[.none, .int (k : Nat) t1, .none] } : Obj)).get? a = some (lo vs e) := Heap.get?_push_of_some _ ha
  refine ⟨⟨_, ha1, rfl⟩, wpAny_getItem_list_slice (s := sh G (h1.push ({ cls := .type "slice", data := .fields #[.none, .int (k : Nat) t1, .none] } : Obj)) (t1 + 1)) (lo_list ha1) (Heap.IsSliceOf.new ..) .none (.int _ _) .none (by simp) ?_ (by rw [List.size_toArray]; exact small hz)⟩
  rw [slicePick_upto']
  exact Po.intro _ (q _ _ _ ((Sub.ins S.size_none).trans (Sub.ins S1.size_none)) ins_self (S1.made (lo (vs.take k) 0) rfl))
theorem c_inti {n : Int} {t : Tok} {Q : Value → Heap → Prop} (q : Q (.int n t) h) : WP G A (call (.type "int") [.int n t]) Q h := .mk fun tk => call_int_int (Po.intro tk q)
theorem o_neb {a b : Bool} {Q : Value → Heap → Prop} (q : Q (.bool (a != b)) h) : WP G A (compareOp .NotEq (.bool a) (.bool b)) Q h := .mk fun tk => PyProof.Rows.ne_bool (Po.intro tk q)
/-! dict() of pairs -/
theorem dloop {I d : Addr} {n : Nat} {vs : List Value} {Ok : Nat → Obj → Prop} {R : Result → Shared → Prop} (pairs : List (Int × Value)) (hn : pairs.length = n) (hz : n ≤ 1000) (T : It G A.in1 γ I n (fun i v => vs[i]? = some v) Ok)
    (hP : ∀ (i : Nat) (v : Value), vs[i]? = some v → ∃ (t : Addr) (k : Int) (tk : Tok) (x : Value) (e : Nat), v = Value.ref t ∧ γ t = some (tu [.int k tk, x] e) ∧ pairs[i]? = some (k, x)) :
    ∀ (j i : Nat) (h : Heap) (tk : Nat) (oI od : Obj) (kvs : List (Int × Value)) (ti : Tok), n - i = j → i ≤ n → Ok i oI → od.IsDictOf (Ikd G) kvs → kvs.length ≤ i → St G an γ L m ((I, oI) :: (d, od) :: led) h →
    (∀ h' t od', od'.IsDictOf (Ikd G) ((pairs.drop i).foldl (fun k p => stored k p.1 p.2) kvs) → St G an γ L m ((d, od') :: led) h' → R (.ok (.ret .none)) (sh G h' t)) →
    codeAny (MD G) A (.builtin "dict.update.loop" ⟨[.ref d, .ref I, .int i ti, .none], []⟩) R (sh G h tk) := by
  intro j
  induction j with
  | zero =>
    intro i h tk oI od kvs ti hj hi ok hd hl S hR
    have hin : i = n := by omega
    subst hin
    refine codeAny_builtin (entryFor_of_tree (b := Builtin.«dict.update.loop») (by kernel_rfl)) ?_
    rw [Around.under_plainId (by decide +kernel) _]
    show wpAny _ A.in1 (pyNext (.ref I) >>= _) _ _ _
    refine wpAny_bind (wpAny_mono ((T.done (Sub.refl _) S ok).run tk) (fun r s1 ⟨h1, t1, e, er, S1⟩ => ?_) fun _ _ e => e.elim)
    subst e er
    refine wpAny_bind (wpAny_pure (wpAny_pure (hR h1 t1 od ?_ S1)))
    rw [← hn, List.drop_length]; exact hd
  | succ j ih =>
    intro i h tk oI od kvs ti hj hi ok hd hl S hR
    refine codeAny_builtin (entryFor_of_tree (b := Builtin.«dict.update.loop») (by kernel_rfl)) ?_
    rw [Around.under_plainId (by decide +kernel) _]
    show wpAny _ A.in1 (pyNext (.ref I) >>= _) _ _ _
    refine wpAny_bind (wpAny_mono ((T.step (Sub.refl _) S ok (by first | decide | omega)).run tk) (fun r s1 ⟨h1, t1, e, v, oI2, er, hv, ok2, S1⟩ => ?_) fun _ _ e => e.elim)
    subst e er
    obtain ⟨t, k, tk', x, e, rfl, ht, hp⟩ := hP i v hv
    have ht1 := S1.get ht
    have hT : (sh G h1 t1).TypeIs (.ref t) "tuple" := ⟨_, ht1, rfl⟩
    have hsl : pairs.drop i = (k, x) :: pairs.drop (i + 1) := by
      have hlt : i < pairs.length := by omega
      rw [List.drop_eq_getElem_cons hlt]
      congr 1
      rw [List.getElem?_eq_getElem hlt] at hp; exact Option.some.inj hp
    rw [hsl] at hR
    refine wpAny_bind (wpAny_holding (wpAny_bind (wpAny_tryCatch ?_)))
    unfold Builtin.Dict.pairItems
    refine wpAny_bind (wpAny_typeOf hT ?_)
    rw [if_pos (by decide)]
    refine wpAny_bind (wpAny_seqItems (o := tu [.int k tk', x] e) ht1 rfl (wpAny_pure ?_))
    show wpAny _ _ (holding [.int k tk', x] (dictSet d (.int k tk') x)) _ _ _
    refine wpAny_holding ?_
    have S2 := S1.perm (List.Perm.swap _ _ _)
    refine wpAny_dictSet_pairs (knd := Ikd G) (s := sh G h1 t1) (intKind_is _ _ _ _) (Heap.dictOf_iff.mpr ⟨od, S2.led_get (.head _), hd⟩) (fun h' hm hs => ?_) (small (by first | decide | omega))
    obtain ⟨od', ho', hd'⟩ := Heap.dictOf_iff.mp hm
    have S3 := (S2.turn hs.extBut ho').perm (List.Perm.swap _ _ _)
    have hl3 := stored_length_le kvs k x
    refine wpAny_pure ⟨plainId_quiet (by decide +kernel) _, ih (i + 1) h' (t1 + 1) oI2 od' _ 0 (by first | decide | omega) (by first | decide | omega) ok2 hd' (by first | decide | omega) S3 hR⟩
theorem c_dictP {a : Addr} {vs : List Value} {e : Nat} {Q : Value → Heap → Prop} (pairs : List (Int × Value)) (hh : A.handled = none) (S : St G an γ L m led h) (ha : γ a = some (lo vs e)) (hn : pairs.length = vs.length) (hz : vs.length ≤ 1000)
    (hP : ∀ (i : Nat) (v : Value), vs[i]? = some v → ∃ (t : Addr) (k : Int) (tk : Tok) (x : Value) (e : Nat), v = Value.ref t ∧ γ t = some (tu [.int k tk, x] e) ∧ pairs[i]? = some (k, x))
    (q : ∀ d od h', an.h0.objs.size ≤ d → h.objs.size ≤ d → od.IsDictOf (Ikd G) (pairs.foldl (fun k p => stored k p.1 p.2) []) → St G an γ L m ((d, od) :: led) h' → Q (.ref d) h') : WP G A (call (.type "dict") [.ref a]) Q h := .mk fun tk => by
  refine callType_codes (Q₁ := fun obj s₁ => obj = .ref h.objs.size ∧ s₁ = sh G (h.push emd) tk) PySem.F.kt_called_dict (PySem.F.kt_typeCall_dict_1 _) PySem.F.entry_dict_init (kt_code_dict_new _ ⟨rfl, rfl⟩) ?_
  rintro obj s₁ ⟨rfl, rfl⟩
  have hup := S.up
  have S1 := S.push_led emd rfl
  have hD := S1.led_get (.head _)
  have ha1 := S1.get ha
  have hTa : (sh G (h.push emd) tk).TypeIs (.ref a) "list" := ⟨_, ha1, rfl⟩
  have hTd : (sh G (h.push emd) tk).TypeIs (.ref h.objs.size) "dict" := ⟨_, hD, rfl⟩
  refine ⟨hTd, PySem.F.args_dict_init_2 _ _, ?_⟩
  unfold Builtin.«dict.__init__»
  refine wpAny_bind ?_
  unfold Builtin.Dict.selfAndRest
  refine wpAny_bind (wpAny_notOrdered_dict hTd ?_)
  show wpAny _ _ (pure (h.objs.size, [Value.ref a])) _ _ _
  refine wpAny_pure ?_
  show wpAny _ _ (Builtin.Dict.updateFrom "dict.__init__" h.objs.size (.ref a) [] .none) _ _ _
  unfold Builtin.Dict.updateFrom
  refine wpAny_bind (wpAny_typeOf hTa ?_)
  rw [if_pos (by decide)]
  refine wpAny_bind (miss_list (o := lo vs e) ha1 rfl rfl rfl (am_miss_of_fast (by decide +kernel)) (by decide +kernel) hh (fun h2 t2 k2 => ?_) (by rw [sizeLine_eq]; decide +kernel))
  have S2 := S1.keep k2
  simp only [Option.isNone_none, if_true]
  refine wpAny_bind (wpAny_rule (wpAny_bind ?_))
  refine wpAny_pyIter_list (s := sh G h2 t2) (lo_list (S2.get ha)) ?_
  have S3 := S2.push_led ({ cls := .type "list_iterator", data := .fields #[.ref a, .int 0 0] } : Obj) rfl
  have hd0 : Obj.IsDictOf (Ikd G) emd [] := by
    obtain ⟨o, ho, hd⟩ := Heap.dictOf_iff.mp (Heap.DictOf.new (knd := Ikd G) h)
    rw [Heap.get?_push_size _ rfl] at ho; cases ho; exact hd
  refine wpAny_pure ⟨plainId_quiet (by decide +kernel) _, dloop pairs hn hz (It.list (A := A.in1.in1) hh ha) hP vs.length 0 _ t2 _ emd [] 0 (by first | decide | omega) (Nat.zero_le _) ⟨rfl, rfl⟩ hd0 (Nat.zero_le _) S3 fun h' t od' hd' S' => ⟨rfl, Po.intro t (q _ od' h' hup (Nat.le_refl _) hd' S')⟩⟩
end
section
variable {G : Gl} {A : Around} {h : Heap} {env : Env} {an : An} {γ : Pm} {L : Addr} {m : Mp} {led : Led}
theorem WP.at_ {t : Sem Value} {pos : Pos} {Q : Value → Heap → Prop} (x : WP G A t Q h) : WP G A (do let v ← t; standAt pos; Pure.pure v) Q h := .mk fun _ =>
  wpAny_bind (x.thn fun _ _ t' q => wpAny_bind (wpAny_standAt (wpAny_pure (Po.intro t' q))))
theorem e_Dict2 {k1 k2 v1 v2 : Expr} {pos : Pos} {Q : Value → Heap → Prop} (S : St G an γ L m led h)
    (x : ∀ h0, St G an γ L m ((h.objs.size, emd) :: led) h0 → WP G A (eval k1 env) (fun a1 h1 => WP G A (eval v1 env) (fun b1 h2 => WP G A (eval k2 env) (fun a2 h3 => WP G A (eval v2 env) (fun b2 h4 =>
      ∃ x1 t1 x2 t2 γ' m' led', a1 = .str x1 t1 ∧ a2 = .str x2 t2 ∧ St G an γ' L m' ((h.objs.size, emd) :: led') h4 ∧
        ∀ o h5, o.IsDictOf (Skd G) (merged [] [(x1, b1), (x2, b2)]) → St G an γ' L m' ((h.objs.size, o) :: led') h5 → Q (.ref h.objs.size) h5) h3) h2) h1) h0) :
    WP G A (eval (.Dict [some k1, some k2] [v1, v2] pos) env) Q h :=
  e_Dict (pairs := [(eval k1 env, do let v ← eval v1 env; standAt pos; Pure.pure v), (eval k2 env, do let v ← eval v2 env; standAt pos; Pure.pure v)]) S (by rfl) (by simp) (by simp) fun h0 S0 =>
    p_cons ((x h0 S0).mono fun a1 h1 q => WP.at_ (q.mono fun b1 h2 q => p_cons (q.mono fun a2 h3 q => WP.at_ (q.mono fun b2 h4 ⟨x1, t1, x2, t2, γ', m', led', e1, e2, S', f⟩ => p_nil (by
      subst e1 e2
      exact ⟨[(x1, b1), (x2, b2)], γ', m', led', ⟨strKind_is _ _ _ _, rfl, strKind_is _ _ _ _, rfl, trivial⟩, S', f⟩)))))
theorem e_Dict3 {k1 k2 k3 v1 v2 v3 : Expr} {pos : Pos} {Q : Value → Heap → Prop} (S : St G an γ L m led h)
    (x : ∀ h0, St G an γ L m ((h.objs.size, emd) :: led) h0 → WP G A (eval k1 env) (fun a1 h1 => WP G A (eval v1 env) (fun b1 h2 => WP G A (eval k2 env) (fun a2 h3 => WP G A (eval v2 env) (fun b2 h4 => WP G A (eval k3 env) (fun a3 h5 => WP G A (eval v3 env) (fun b3 h6 =>
      ∃ x1 t1 x2 t2 x3 t3 γ' m' led', a1 = .str x1 t1 ∧ a2 = .str x2 t2 ∧ a3 = .str x3 t3 ∧ St G an γ' L m' ((h.objs.size, emd) :: led') h6 ∧
        ∀ o h7, o.IsDictOf (Skd G) (merged [] [(x1, b1), (x2, b2), (x3, b3)]) → St G an γ' L m' ((h.objs.size, o) :: led') h7 → Q (.ref h.objs.size) h7) h5) h4) h3) h2) h1) h0) :
    WP G A (eval (.Dict [some k1, some k2, some k3] [v1, v2, v3] pos) env) Q h :=
  e_Dict (pairs := [(eval k1 env, do let v ← eval v1 env; standAt pos; Pure.pure v), (eval k2 env, do let v ← eval v2 env; standAt pos; Pure.pure v), (eval k3 env, do let v ← eval v3 env; standAt pos; Pure.pure v)]) S (by rfl) (by simp) (by simp) fun h0 S0 =>
    p_cons ((x h0 S0).mono fun a1 h1 q => WP.at_ (q.mono fun b1 h2 q => p_cons (q.mono fun a2 h3 q => WP.at_ (q.mono fun b2 h4 q => p_cons (q.mono fun a3 h5 q => WP.at_ (q.mono fun b3 h6 ⟨x1, t1, x2, t2, x3, t3, γ', m', led', e1, e2, e3, S', f⟩ => p_nil (by
      subst e1 e2 e3
      exact ⟨[(x1, b1), (x2, b2), (x3, b3)], γ', m', led', ⟨strKind_is _ _ _ _, rfl, strKind_is _ _ _ _, rfl, strKind_is _ _ _ _, rfl, trivial⟩, S', f⟩)))))))
/-- a loop whose name lives in a cell -/
theorem cd_forC {x : Str} {px : Pos} {body : List Stmt} {Q : Flow → Heap → Prop} {sc : Scope} {I K : Addr} {n : Nat} {P : Nat → Value → Prop} {Ok : Nat → Obj → Prop} {oI oK : Obj} {vo : Option Value} (E : EOk sc env L) (T : It G A γ I n P Ok) (ok0 : Ok 0 oI) (S : St G an γ L m ((I, oI) :: (K, oK) :: led) h) (hd0 : oK.data = .cell vo)
    (J : Nat → Pm → Mp → Led → Prop) (j0 : J 0 γ m led) (hc : env.cells.lookup x = some K)
    (turn : ∀ i v γ' m' led' oI' oK' h', i < n → P i v → Sub γ γ' → J i γ' m' led' → oK'.data = .cell (some v) → St G an γ' L m' ((I, oI') :: (K, oK') :: led') h' → WP G A (execs body env) (fun f h2 => match f with
      | .next | .cont => ∃ γ2 m2 led2, Sub γ' γ2 ∧ J (i + 1) γ2 m2 led2 ∧ St G an γ2 L m2 ((I, oI') :: (K, oK') :: led2) h2
      | .brk => False
      | .ret v => Q (.ret v) h2) h')
    (fin : ∀ γ' m' led' oK' vo' h', Sub γ γ' → J n γ' m' led' → oK'.data = .cell vo' → St G an γ' L m' ((K, oK') :: led') h' → Q .next h')
    (hx : sc.names.lookup x = some .cell) : CD G A (.forLoop (.Name x px) (.ref I) body [] env) Q h := .mk fun tk => by
  refine codeAny_forLoop (fun k s => ∃ h' t i γ' m' led' oI' oK' vo', s = sh G h' t ∧ i ≤ n ∧ k = n - i ∧ Sub γ γ' ∧ J i γ' m' led' ∧ Ok i oI' ∧ oK'.data = .cell vo' ∧ St G an γ' L m' ((I, oI') :: (K, oK') :: led') h') ?_ n
    ⟨h, tk, 0, γ, m, led, oI, oK, vo, rfl, Nat.zero_le _, rfl, Sub.refl _, j0, ok0, hd0, S⟩
  rintro k s ⟨h', t, i, γ', m', led', oI', oK', vo', e, hi, hk, s', j, ok, hd, S'⟩
  subst e
  by_cases hlt : i < n
  · refine wpAny_mono ((T.step s' S' ok hlt).run t) (fun r s1 ⟨h1, t1, e, v, oI2, er, hv, ok2, S2⟩ => ?_) fun _ _ e => e.elim
    subst e er
    refine wpAny_assign_Name ?_
    refine wpAny_mono ((l_cell (A := A) (ld := fun o => (I, oI2) :: (K, o) :: led') (Q := fun _ h2 => ∃ o2, o2.data = .cell (some v) ∧ St G an γ' L m' ((I, oI2) :: (K, o2) :: led') h2) S2 E hc (fun _ => .tail .head) hd (fun o2 h2 d2 z => ⟨o2, d2, z⟩) hx).run t1) (fun _ s2 ⟨h2, t2, e, o2, d2, S3⟩ => ?_) fun _ _ e => e.elim
    subst e
    refine wpAny_mono ((turn i v γ' m' led' oI2 o2 h2 hlt hv s' j d2 S3).run t2) (fun f s3 ⟨h3, t3, e, q⟩ => ?_) fun _ _ e => e.elim
    subst e
    have go : (∃ γ2 m2 led2, Sub γ' γ2 ∧ J (i + 1) γ2 m2 led2 ∧ St G an γ2 L m2 ((I, oI2) :: (K, o2) :: led2) h3) → ∃ m_1, m_1 < k ∧ ∃ h' t i γ' m' led' oI' oK' vo', sh G h3 t3 = sh G h' t ∧ i ≤ n ∧ m_1 = n - i ∧ Sub γ γ' ∧ J i γ' m' led' ∧ Ok i oI' ∧ oK'.data = .cell vo' ∧ St G an γ' L m' ((I, oI') :: (K, oK') :: led') h' :=
      fun ⟨γ2, m2, led2, s2, j2, S4⟩ => ⟨n - (i + 1), stepLt hk hlt, h3, t3, i + 1, γ2, m2, led2, oI2, o2, _, rfl, hlt, rfl, s'.trans s2, j2, ok2, d2, S4⟩
    cases f with
    | next => exact go q
    | cont => exact go q
    | brk => exact q.elim
    | ret v => exact ⟨_, h3, t3, rfl, rfl, q⟩
  · have : i = n := by omega
    subst this
    refine wpAny_mono ((T.done s' S' ok).run t) (fun r s1 ⟨h1, t1, e, er, S2⟩ => ?_) fun _ _ e => e.elim
    subst e er
    exact wpAny_execs_nil ⟨_, h1, t1, rfl, rfl, fin γ' m' led' oK' vo' h1 s' j hd S2⟩
/-! enumerate -/
abbrev enO (it : Addr) (i : Int) (own old : Value) : Obj := { cls := .type "enumerate", dict := none, data := .fields #[own, .bool false, .ref it, rawInt i, .none, old], slots := #[] }
theorem c_enum {a : Addr} {vs : List Value} {e : Nat} {Q : Value → Heap → Prop} (S : St G an γ L m led h) (ha : γ a = some (lo vs e))
    (q : ∀ en it oI h', OkL a 0 oI → St G an γ L m ((en, enO it 0 .none .none) :: (it, oI) :: led) h' → Q (.ref en) h') : WP G A (call (.type "enumerate") [.ref a]) Q h := .mk fun tk => by
  refine call_enumerate_list (s := sh G h tk) (lo_list (S.get ha)) fun h' he hit hsz hk => ?_
  obtain ⟨oI, ho, ok⟩ := hit
  have S1 := S.keep hk
  have gn : ∀ b, h.objs.size ≤ b → γ b = none := fun b hb => by
    cases q : γ b with
    | none => rfl
    | some o => exact absurd (get_lt (S.on _ _ q)) (Nat.not_lt.mpr hb)
  have old : ∀ b ∈ L :: led.map (·.1), b < h.objs.size := fun b hb => by
    rcases List.mem_cons.mp hb with rfl | hb
    · exact S.ns.lt
    · obtain ⟨p, hp, e⟩ := List.mem_map.mp hb
      exact e ▸ get_lt (S.nw p hp).1
  refine Po.intro _ (q (h.objs.size + 1) h.objs.size oI h' ok { S1 with
    nw := fun p hp => by
      rcases List.mem_cons.mp hp with rfl | hp
      · exact ⟨he, gn _ (Nat.le_succ _), .inr (Nat.le_trans S.up (Nat.le_succ _))⟩
      · rcases List.mem_cons.mp hp with rfl | hp
        · exact ⟨ho, gn _ (Nat.le_refl _), .inr S.up⟩
        · exact S1.nw p hp
    nd := by
      have h1 : h.objs.size + 1 ∉ L :: led.map (·.1) := fun q => absurd (old _ q) (Nat.not_lt.mpr (Nat.le_succ _))
      have h2 : h.objs.size ∉ L :: led.map (·.1) := fun q => absurd (old _ q) (Nat.lt_irrefl _)
      obtain ⟨n1, n2⟩ := List.nodup_cons.mp S.nd
      rw [List.map_cons, List.map_cons]
      refine List.nodup_cons.mpr ⟨fun q => ?_, List.nodup_cons.mpr ⟨fun q => ?_, List.nodup_cons.mpr ⟨fun q => h2 (.tail _ q), n2⟩⟩⟩
      · rcases List.mem_cons.mp q with q | q
        · exact h1 (q ▸ .head _)
        · rcases List.mem_cons.mp q with q | q
          · exact h2 (q ▸ .head _)
          · exact n1 q
      · rcases List.mem_cons.mp q with q | q
        · exact absurd q (Nat.ne_of_gt (Nat.lt_succ_self _))
        · exact h1 (.tail _ q) })
theorem OkL.list {a : Addr} {i : Nat} {oI : Obj} {it : Addr} (ok : OkL a i oI) (e : h.get? it = some oI) : h.IsListIter it a i := ⟨oI, e, ok⟩
/-- one more, and its pair handed out -/
theorem en_item {a en it : Addr} {vs : List Value} {e i : Nat} {old v : Value} {oI : Obj} {Q : Option Value → Heap → Prop} (S : St G an γ L m ((en, enO it (i : Nat) .none old) :: (it, oI) :: led) h) (ok : OkL a i oI) (ha : γ a = some (lo vs e)) (hv : vs[i]? = some v)
    (q : ∀ (p : Addr) t oI' h', OkL a (i + 1) oI' → St G an γ L m ((en, enO it ((i : Int) + 1) (rawInt p) v) :: (it, oI') :: (p, tu [.int (i : Nat) t, v] 0) :: led) h' → Q (some (.ref p)) h') : WP G A (pyNext (.ref en)) Q h := .mk fun tk => by
  have hne : en ≠ it := fun q => by
    have := (List.nodup_cons.mp (List.nodup_cons.mp S.nd).2).1
    exact this (by rw [q]; simp)
  refine wpAny_pyNext_enum_item (s := sh G h tk) (S.led_get (.head _)) (ok.list (S.led_get (.tail _ (.head _)))) (lo_list (S.get ha)) (by simpa using hv) hne fun h' he hit ht hsz hk => ?_
  obtain ⟨oI', ho, ok'⟩ := hit
  have hen := (S.nw _ (.head _)).2
  have hit2 := (S.nw _ (.tail _ (.head _))).2
  have hLen : L ≠ en := fun q => (List.nodup_cons.mp S.nd).1 (q ▸ .head _)
  have hLit : L ≠ it := fun q => (List.nodup_cons.mp S.nd).1 (q ▸ .tail _ (.head _))
  have S0 := S.drop.drop
  have gn : γ h.objs.size = none := S.size_none
  have n2 := (List.nodup_cons.mp S.nd).2
  have apart : ∀ b ∈ led.map (·.1), b ≠ en ∧ b ≠ it := fun b hb => by
    rw [List.map_cons, List.map_cons] at n2
    obtain ⟨m1, m2⟩ := List.nodup_cons.mp n2
    obtain ⟨m3, _⟩ := List.nodup_cons.mp m2
    exact ⟨fun q => m1 (q ▸ .tail _ hb), fun q => m3 (q ▸ hb)⟩
  have olds : ∀ b ∈ L :: ((en, enO it (i : Nat) .none old) :: (it, oI) :: led).map (·.1), b < h.objs.size := fun b hb => by
    rcases List.mem_cons.mp hb with rfl | hb
    · exact S.ns.lt
    · obtain ⟨p, hp, e⟩ := List.mem_map.mp hb
      exact e ▸ get_lt (S.nw p hp).1
  have hnp : h.objs.size ∉ L :: ((en, enO it (i : Nat) .none old) :: (it, oI) :: led).map (·.1) := fun q => absurd (olds _ q) (Nat.lt_irrefl _)
  refine Po.intro _ (q h.objs.size _ oI' h' ok' {
    base := S.base
    sub := S.sub
    gro := S.gro
    on := fun b x e => hk b x (fun q => by rw [q, hen.1] at e; cases e) (fun q => by rw [q, hit2.1] at e; cases e) (S.on b x e)
    ext := fun b x e k => hk b x (fun q => by
        rcases hen.2 with z | z
        · exact k (q ▸ z)
        · exact absurd (get_lt e) (by rw [q]; exact Nat.not_lt.mpr z)) (fun q => by
        rcases hit2.2 with z | z
        · exact k (q ▸ z)
        · exact absurd (get_lt e) (by rw [q]; exact Nat.not_lt.mpr z)) (S.ext b x e k)
    ns := by
      obtain ⟨o, es, ep, e, r⟩ := S.ns
      exact ⟨o, es, ep, hk L o hLen hLit e, r⟩
    gL := S.gL
    hL := S.hL
    nw := fun p hp => by
      rcases List.mem_cons.mp hp with rfl | hp
      · exact ⟨he, hen⟩
      · rcases List.mem_cons.mp hp with rfl | hp
        · exact ⟨ho, hit2⟩
        · rcases List.mem_cons.mp hp with rfl | hp
          · exact ⟨ht, gn, .inr S.up⟩
          · have z := S0.nw p hp
            have y := apart p.1 (List.mem_map_of_mem hp)
            exact ⟨hk _ _ y.1 y.2 z.1, z.2⟩
    nd := by
      have n1 := (List.nodup_cons.mp S.nd).1
      rw [List.map_cons, List.map_cons] at n1 n2 hnp ⊢
      rw [List.map_cons]
      obtain ⟨m1, m2⟩ := List.nodup_cons.mp n2
      obtain ⟨m3, m4⟩ := List.nodup_cons.mp m2
      refine List.nodup_cons.mpr ⟨fun q => ?_, List.nodup_cons.mpr ⟨fun q => ?_, List.nodup_cons.mpr ⟨fun q => ?_, List.nodup_cons.mpr ⟨fun q => ?_, m4⟩⟩⟩⟩
      · rcases List.mem_cons.mp q with q | q
        · exact n1 (q ▸ .head _)
        · rcases List.mem_cons.mp q with q | q
          · exact n1 (q ▸ .tail _ (.head _))
          · rcases List.mem_cons.mp q with q | q
            · exact hnp (q ▸ .head _)
            · exact n1 (.tail _ (.tail _ q))
      · rcases List.mem_cons.mp q with q | q
        · exact m1 (q ▸ .head _)
        · rcases List.mem_cons.mp q with q | q
          · exact hnp (q ▸ .tail _ (.head _))
          · exact m1 (.tail _ q)
      · rcases List.mem_cons.mp q with q | q
        · exact hnp (q ▸ .tail _ (.tail _ (.head _)))
        · exact m3 q
      · exact hnp (.tail _ (.tail _ (.tail _ q))) })
theorem en_end {a en it : Addr} {vs : List Value} {e i : Nat} {old : Value} {oI : Obj} {Q : Option Value → Heap → Prop} (hh : A.handled = none) (S : St G an γ L m ((en, enO it (i : Nat) .none old) :: (it, oI) :: led) h) (ok : OkL a i oI) (ha : γ a = some (lo vs e)) (hv : vs[i]? = none)
    (q : ∀ h', St G an γ L m led h' → Q none h') : WP G A (pyNext (.ref en)) Q h := .mk fun tk => by
  refine wpAny_pyNext_enum_end (s := sh G h tk) hh (S.led_get (.head _)) (ok.list (S.led_get (.tail _ (.head _)))) (lo_list (S.get ha)) (by simpa using hv) fun h' hx => ?_
  exact Po.intro _ (q h' (((S.perm (List.Perm.swap _ _ _)).lose hx).drop))
theorem en_let {elts : List Expr} {x1 : Nat} {pos : Pos} {en it p : Addr} {i : Int} {v : Value} {Q : Unit → Heap → Prop} (S : St G an γ L m ((en, enO it i (rawInt p) v) :: led) h)
    (q : ∀ h', St G an γ L m ((en, enO it i .none v) :: led) h' → Q () h') : WP G A (letOwnedTupleGo (.Tuple elts x1 pos) (.ref en) (.ref p)) Q h := .mk fun tk =>
  wpAny_letOwnedTupleGo_enum (s := sh G h tk) (S.led_get (.head _)) fun h' he hs => Po.intro tk (q h' (S.turn hs.extBut he))
theorem en_self {en it : Addr} {i : Int} {old : Value} {Q : Value → Heap → Prop} (S : St G an γ L m ((en, enO it i .none old) :: led) h) (q : Q (.ref en) h) : WP G A (pyIter (.ref en)) Q h := .mk fun tk =>
  wpAny_pyIter_enum (s := sh G h tk) (S.led_get (.head _)) (Po.intro tk q)
end
section
variable {B B' : List TKey}
theorem Flat.mono {W F : List Nat} {n : Nat} (x : Flat B W F n) (p : B <+: B') : Flat B' W F n := by
  induction x with
  | nil => exact .nil
  | leaf e ho _ ih => exact .leaf (pre_get p e) ho ih
  | open_ e ho ha _ ih => exact .open_ (pre_get p e) ho ha ih
theorem Flat.app {W F W2 F2 : List Nat} {n n2 : Nat} (x : Flat B W F n) (y : Flat B W2 F2 n2) : Flat B (W ++ W2) (F ++ F2) (n + n2) := by
  induction x with
  | nil => simpa using y
  | @leaf p k W F n e ho _ ih => rw [Nat.add_right_comm]; exact .leaf e ho ih
  | @open_ p k as W F n e ho ha _ ih => rw [Nat.add_right_comm]; exact .open_ e ho ha ((List.append_assoc as W W2) ▸ ih)
/-- what is not opened -/
def Lf (B : List TKey) (F : List Nat) : Prop := ∀ p ∈ F, ∃ k, B[p]? = some k ∧ k.op ≠ Str.ofString "or"
theorem Lf.flat : ∀ {F : List Nat}, Lf B F → Flat B F F F.length
  | [], _ => .nil
  | p :: F, h => by
    obtain ⟨k, e, ho⟩ := h p (by simp)
    exact .leaf e ho (Lf.flat fun q hq => h q (by simp [hq]))
theorem Lf.mono {F : List Nat} (h : Lf B F) (p : B <+: B') : Lf B' F := fun q hq => let ⟨k, e, ho⟩ := h q hq; ⟨k, pre_get p e, ho⟩
theorem Lf.app {F F2 : List Nat} (h : Lf B F) (h2 : Lf B F2) : Lf B (F ++ F2) := fun q hq => by
  rcases List.mem_append.mp hq with hq | hq
  · exact h q hq
  · exact h2 q hq
theorem Rep.flat1 {d i : Nat} {F : List Nat} {f : Nat → Nat} (x : Rep B d i F f) : ∃ n, n ≤ 4 ^ (d + 1) ∧ Flat B [i] F n := by
  obtain ⟨n, h, y⟩ := x.flat
  exact ⟨n, h, by simpa using y (W := []) (F' := []) .nil⟩
theorem Rep.lf {d i : Nat} {F : List Nat} {f : Nat → Nat} (x : Rep B d i F f) : Lf B F := fun p hp => let ⟨_, _, h⟩ := x.told.1 p hp; h
theorem parts_flat {d : Nat} : ∀ {ps : List Pt}, (∀ p ∈ ps, PtR B d p) → ∃ n, n ≤ ps.length * 4 ^ (d + 1) ∧ Flat B (ps.map (·.i)) (ps.map (·.F)).flatten n
  | [], _ => ⟨0, by simp, .nil⟩
  | p :: ps, h => by
    obtain ⟨n, h1, x⟩ := Rep.flat1 (h p (by simp))
    obtain ⟨n2, h2, y⟩ := parts_flat (ps := ps) fun q hq => h q (by simp [hq])
    refine ⟨n + n2, ?_, by simpa using x.app y⟩
    rw [List.length_cons, Nat.succ_mul]
    omega
theorem parts_lf {d : Nat} : ∀ {ps : List Pt}, (∀ p ∈ ps, PtR B d p) → Lf B (ps.map (·.F)).flatten
  | [], _ => fun q hq => by simp at hq
  | p :: ps, h => by
    have := Lf.app (Rep.lf (h p (by simp))) (parts_lf (ps := ps) fun q hq => h q (by simp [hq]))
    simpa using this
end
theorem Rep.shape {B : List TKey} {d i : Nat} {F : List Nat} {f : Nat → Nat} (x : Rep B d i F f) (row : Nat) : (∃ k, k < 4 ∧ i = 3 + k ∧ f = fun r => r / 2 ^ k % 2) ∨
    ∃ d' op as vals, d = d' + 1 ∧ B[i]? = some ⟨op, ci as, 0⟩ ∧ vals.length = as.length ∧ vals.length ≤ 3 ∧ (∀ (j p : Nat), as[j]? = some p → ∃ F g, Rep B d' p F g ∧ vals[j]? = some (g row)) ∧
      ((op = Str.ofString "not" ∧ ∃ v, vals = [v] ∧ f row = 1 - v ∧ v ≤ 1) ∨ (op = Str.ofString "and" ∧ f row ∈ vals ∧ ∀ v ∈ vals, f row ≤ v) ∨ (op = Str.ofString "or" ∧ f row ∈ vals ∧ ∀ v ∈ vals, v ≤ f row) ∨ (op = Str.ofString "=>" ∧ ∃ a b, vals = [a, b] ∧ f row = if a ≤ b then 1 else 0)) := by
  cases x with
  | name hk e => exact .inl ⟨_, hk, rfl, rfl⟩
  | @neg d a i F f x e => exact .inr ⟨d, _, [a], [f row], rfl, e, rfl, by simp, fun j p h => by
      match j, h with
      | 0, h => cases h; exact ⟨_, _, x, rfl⟩, .inl ⟨rfl, _, rfl, rfl, x.le1 row⟩⟩
  | @and2 d a b i F F' f g x y e => exact .inr ⟨d, _, [a, b], [f row, g row], rfl, e, rfl, by simp, fun j p h => by
      match j, h with
      | 0, h => cases h; exact ⟨_, _, x, rfl⟩
      | 1, h => cases h; exact ⟨_, _, y, rfl⟩, .inr (.inl ⟨rfl, by simp; omega, by simp; omega⟩)⟩
  | @imp d a b i F F' f g x y e => exact .inr ⟨d, _, [a, b], [f row, g row], rfl, e, rfl, by simp, fun j p h => by
      match j, h with
      | 0, h => cases h; exact ⟨_, _, x, rfl⟩
      | 1, h => cases h; exact ⟨_, _, y, rfl⟩, .inr (.inr (.inr ⟨rfl, _, _, rfl, rfl⟩))⟩
  | @or2 d a b i F F' f g x y e => exact .inr ⟨d, _, [a, b], [f row, g row], rfl, e, rfl, by simp, fun j p h => by
      match j, h with
      | 0, h => cases h; exact ⟨_, _, x, rfl⟩
      | 1, h => cases h; exact ⟨_, _, y, rfl⟩, .inr (.inr (.inl ⟨rfl, by simp; omega, by simp; omega⟩))⟩
  | @or3 d a b c i F F' F'' f g h x y z e => exact .inr ⟨d, _, [a, b, c], [f row, g row, h row], rfl, e, rfl, by simp, fun j p h => by
      match j, h with
      | 0, h => cases h; exact ⟨_, _, x, rfl⟩
      | 1, h => cases h; exact ⟨_, _, y, rfl⟩
      | 2, h => cases h; exact ⟨_, _, z, rfl⟩, .inr (.inr (.inl ⟨rfl, by simp; omega, by simp; omega⟩))⟩

theorem e_neg {G : Gl} {A : Around} {h : Heap} {env : Env} {i : Int} {k : Nat} {p pos : Pos} {Q : Value → Heap → Prop} (q : ∀ t, Q (.int (-i) t) h) : WP G A (eval (.UnaryOp .USub (.Constant (.int i) k p) pos) env) Q h := .mk fun tk =>
  PyProof.Rows.UnaryOp_ ((e_int (Q := fun v h1 => WP G A (unaryOp .USub v) Q h1) fun t => .mk fun tk => PyProof.Rows.neg_int (Po.intro (tk + 1) (q _))).run tk |> fun x => wpAny_mono x (fun _ _ ⟨_, _, e, z⟩ => e ▸ z.run _) fun _ _ e => e)
/-- the columns of the names -/
def NmCols (γ : Pm) (kvs : List (Int × Value)) : Prop := (∀ k : Nat, k < 4 → ∃ c vs e, valueAt kvs ((3 + k : Nat) : Int) = some (.ref c) ∧ γ c = some (lo vs e) ∧ vs.length = 16 ∧ ∀ r, r < 16 → ∃ t, vs[r]? = some (.int ((r / 2 ^ k % 2 : Nat) : Int) t)) ∧ ∀ i : Int, (valueAt kvs i).isSome = true → 3 ≤ i ∧ i < 7
theorem NmCols.sub {γ γ' : Pm} {kvs : List (Int × Value)} (s : Sub γ γ') (x : NmCols γ kvs) : NmCols γ' kvs := ⟨fun k hk => let ⟨c, vs, e, a, b, r⟩ := x.1 k hk; ⟨c, vs, e, a, s _ _ b, r⟩, x.2⟩
theorem truth_ok {G : Gl} (D : Gd G) {c : BC} {q1 q2 : Tok} {o : BO} {B : List TKey} {cs : Led} {aT : Addr} {oT : Obj} {kvs : List (Int × Value)} (hB : B.length ≤ 1000000) (hT : oT.IsDictOf (Ikd G) kvs) (hsT : (aT == sysModules) = false)
    (hop : ∀ k : Nat, k < 4 → B[3 + k]? = some ⟨Str.ofString "app", ci [], (k : Nat)⟩) :
    ∀ (d : Nat) {i : Nat} {F : List Nat} {f : Nat → Nat} {A : Around} {h : Heap} {γ : Pm} {row : Nat} {n : Nat} {ti tr : Tok} {R : Value → Heap → Prop}, Rep B d i F f → Room A (n + 3 * d + 5) → Ins G γ c.b 622 (bkv c (bful q1 q2)) → BR G γ o B → Sit G γ (bcs c o ++ cs) h → γ aT = some oT → NmCols γ kvs → row < 16 →
    (∀ t γ' h', Same γ h (bcs c o ++ cs) γ' h' → R (.int (f row : Nat) t) h') →
    CD G A (.call (.ref 655) ⟨[.ref c.b, .ref aT, .int (i : Nat) ti, .int (row : Nat) tr], []⟩) (Ret R) h := by
  intro d
  induction d using Nat.strongRecOn with
  | ind d ih =>
  intro i F f A h γ row n ti tr R x hr I H T hgT hN hrow fin
  refine call_defC D T hr (st := topAt 30) (nm := Str.ofString "_law_truth") (ql := Str.ofString "_law_truth") (pm := (Value.str (Str.ofString "law_qz0017_01") 1020)) (cd := .ref 654) (binds := [(Str.ofString "bank", .ref c.b), (Str.ofString "truths", .ref aT), (Str.ofString "term", .int (i : Nat) ti), (Str.ofString "row", .int (row : Nat) tr)]) (bl := [(Str.ofString "term", .int (i : Nat) ti)]) (bc := [(Str.ofString "bank", .ref c.b), (Str.ofString "truths", .ref aT), (Str.ofString "row", .int (row : Nat) tr)]) (cells := fun N => [(Str.ofString "row", N + 2), (Str.ofString "truths", N + 1), (Str.ofString "bank", N)]) (by kernel_rfl) (by kernel_rfl) (by kernel_rfl) (by intro N; rfl) (by decide +kernel) (by intro N; rfl) (by kernel_rfl) (by kernel_rfl) (by intro x hx; simp at hx; rcases hx with rfl | rfl | rfl <;> exact ⟨by kernel_rfl, by simp⟩) (by kernel_rfl) (by kernel_rfl) (by kernel_rfl) ?_
  intro an L h₁ en A' ce E hcel hr' CA ceUp post S
  generalize hb : fBod (topAt 30) = b
  conv at hb => lhs; whnf
  subst hb
  cases CA with | cons c0 v0 CA =>
  cases CA with | cons c1 v1 CA =>
  cases CA with | cons c2 v2 CA =>
  cases CA
  rename_i oc_row vc_row oc_truths vc_truths oc_bank vc_bank
  have d_row : oc_row.data = .cell (some (.int (row : Nat) tr)) := by rw [c0, v0]; rfl
  have d_truths : oc_truths.data = .cell (some (.ref aT)) := by rw [c1, v1]; rfl
  have d_bank : oc_bank.data = .cell (some (.ref c.b)) := by rw [c2, v2]; rfl
  clear c0 v0 c1 v1 c2 v2
  have up_row : an.h0.objs.size ≤ L + 1 + 2 := ceUp (L + 1 + 2, oc_row) (by simp)
  have up_truths : an.h0.objs.size ≤ L + 1 + 1 := ceUp (L + 1 + 1, oc_truths) (by simp)
  have up_bank : an.h0.objs.size ≤ L + 1 := ceUp (L + 1, oc_bank) (by simp)
  clear ceUp
  simp only [puts, List.foldl] at S
  simp only [List.cons_append, List.nil_append] at S
  obtain ⟨γ1, s1, g_row, S⟩ := S.frz up_row
  obtain ⟨γ2, s2, g_truths, S⟩ := S.frz up_truths
  obtain ⟨γ3, s3, g_bank, S⟩ := S.frz up_bank
  have g_truths := s3 _ _ g_truths
  have g_row := s3 _ _ (s2 _ _ g_row)
  have s13 := (s1.trans s2).trans s3
  have I := I.sub s13
  have H := H.sub s13
  have hN := hN.sub s13
  have hgT := s13 _ _ hgT
  refine x_seq ?_; intro K1 kn1 kr1
  wtm_at "gc"
  refine inI_D (S.get hgT) hT hsT ?_
  wtm_at "gc"
  by_cases hin : (valueAt kvs (i : Nat)).isSome = true
  · rw [if_pos hin]
    have hi := hN.2 _ hin
    obtain ⟨k, hk, rfl⟩ : ∃ k, k < 4 ∧ i = 3 + k := ⟨i - 3, by omega, by omega⟩
    obtain ⟨cc, vs, e, e1, e2, e3, e4⟩ := hN.1 k hk
    obtain ⟨tv, hv⟩ := e4 row hrow
    have hf := (x.uni (Rep.name (d := 0) hk (hop k hk))).2
    subst hf
    refine x_seq ?_; intro K2 kn2 kr2
    wtm_at "gc"
    refine i_dicti (S.get hgT) hT e1 ?_ sub_name
    wtm_at "gc"
    refine i_list (S.get e2) (by first | decide | omega) (by first | decide | omega) (by simpa using hv) ?_ sub_name
    refine kr2 _ _ ?_
    refine kr1 _ _ ?_
    exact fin tv _ _ ⟨post _ _ _ _ S, fun p hp => (S.nw p hp).1⟩
  · rw [if_neg hin]
    obtain ⟨k, hk, rfl, -⟩ | ⟨d', op, as, vals, rfl, hBi, hlen, hlen3, hch, hsh⟩ := x.shape row
    · obtain ⟨cc, vs, e, e1, -⟩ := hN.1 k hk
      exact absurd (by rw [e1]; rfl) hin
    wtm_at "gc"
    refine kn1 _ ?_; clear kn1 kr1 K1
    refine x_seq ?_; intro K3 kn3 kr3
    refine x_LC (sc := default) (swaps_of E fun e => by kernel_rfl) (by intro _; rfl) (cl := [(Str.ofString "truths", L + 1 + 1), (Str.ofString "row", L + 1 + 2), (Str.ofString "bank", L + 1)]) (by rw [hcel]; kernel_rfl) (by kernel_rfl) ?_
    wtm_at "gc"
    refine m_get (f := 416) D S I (by kernel_rfl) (by kernel_rfl) ?_
    refine cw_K D (by kernel_rfl) ?_ (by rfl) (by rfl)
    wtm_at "gc"
    refine ⟨S.kin D, ?_⟩
    refine wp_call (args_ok D (hr'.less (by first | decide | omega) : Room A' (0 + 1)) I H (S.sit (xs := []) (cs := bcs c o ++ cs)) hB hBi ?_)
    intro a4 γ4 h₄ hz4 sm
    have S := S.same (xs := []) (cs := bcs c o ++ cs) sm
    rw [List.nil_append] at S
    have s4 := sm.1.sub
    have hz4 := hz4.sub s4
    have I := I.sub s4
    have H := H.sub s4
    have hN := hN.sub s4
    have hgT := s4 _ _ hgT
    have g_row := s4 _ _ g_row
    have g_truths := s4 _ _ g_truths
    have g_bank := s4 _ _ g_bank
    obtain ⟨us, e4, hu4, hi4⟩ := hz4
    have hn4 := Nats.of_ints hi4
    have hl4 := hn4.len
    refine it_tuple S (S.get hu4) ?_
    intro I5 oI5 h₅ ok5 S5
    refine lcg_use (cl := [(Str.ofString "truths", L + 1 + 1), (Str.ofString "row", L + 1 + 2), (Str.ofString "bank", L + 1)]) (fun j ys _ led => Nats ys (vals.take j) ∧ led = bcs c o ++ cs) E (It.tuple hr'.h hu4) ok5 S5 ⟨.nil, rfl⟩ (by first | decide | omega) (by rw [hcel]; kernel_rfl) (by kernel_rfl) (by kernel_rfl) ?_ ?_
    · rintro j ys v γ6 led6 h₆ C mC I6 oI6 oL6 D6 k6 en6 hj hv hyl s6 ⟨hys, rfl⟩ E6 hce6 S6
      have I := I.sub s6
      have H := H.sub s6
      have hN := hN.sub s6
      have hgT := s6 _ _ hgT
      have g_row := s6 _ _ g_row
      have g_truths := s6 _ _ g_truths
      have g_bank := s6 _ _ g_bank
      obtain ⟨p, tp, hp, rfl⟩ := hn4.get hv
      obtain ⟨Fp, gp, xp, hvp⟩ := hch j p hp
      wtm_at "gc"
      refine n_glob (v := .ref 655) (by assumption) (by assumption) (by assumption) (ns__law_truth _) ?_ (by kernel_rfl) (by kernel_rfl)
      refine cw_K D (by kernel_rfl) ?_ (by rfl) (by rfl)
      wtm_at "gc"
      refine ⟨S6.kin D, ?_⟩
      refine wp_call (ih d' (by first | decide | omega) xp (hr'.less (by first | decide | omega) : Room A' (n + 3 * d' + 5)) I H (S6.sit (xs := [(I6, _), (L, _), (D6, _)]) (cs := bcs c o ++ cs)) hgT hN hrow ?_)
      intro t γ2 h2 sm
      have S := S6.same (xs := [(I6, _), (L, _), (D6, _)]) (cs := bcs c o ++ cs) sm
      exact ⟨γ2, _, _, sm.1.sub, ⟨by rw [List.take_add_one, hvp]; exact hys.append (.cons .nil), rfl⟩, S⟩
    · rintro D7 ys k7 γ7 γ8 led7 h₇ hyl s7 s8 ⟨hys, rfl⟩ hD7 S7
      rw [hl4, ← hlen, List.take_length] at hys
      have hyv := hys.len
      have s48 := s7.trans s8
      have I := I.sub s48
      have H := H.sub s48
      have g_bank := s48 _ _ g_bank
      clear S S5
      refine kn3 _ ?_; clear kn3 kr3 K3
      refine x_seq ?_; intro K4 kn4 kr4
      have S := S7
      clear S7
      wtm_at "gc"
      refine m_get (f := 409) D S I (by kernel_rfl) (by kernel_rfl) ?_
      refine cw_K D (by kernel_rfl) ?_ (by rfl) (by rfl)
      wtm_at "gc"
      refine ⟨S.kin D, ?_⟩
      refine wp_call (op_ok D (hr'.less (by first | decide | omega) : Room A' (0 + 1)) I H (S.sit (xs := []) (cs := bcs c o ++ cs)) hB hBi ?_)
      intro t9 γ9 h9 sm9
      have S := S.same (xs := []) (cs := bcs c o ++ cs) sm9
      rw [List.nil_append] at S
      have s9 := sm9.1.sub
      have I := I.sub s9
      have H := H.sub s9
      have g_bank := s9 _ _ g_bank
      have hD7 := s9 _ _ hD7
      wtm_at "gc"
      refine o_eqs ?_
      wtm_at "gc"
      obtain ⟨rfl, v, rfl, hfr, hv1⟩ | hrest := hsh
      · rw [if_pos (by simp)]
        refine x_seq ?_; intro K5 kn5 kr5
        wtm_at "gc"
        obtain ⟨tv, us', rfl, hys'⟩ := hys.uncons
        refine i_list (S.get hD7) (by first | decide | omega) (by first | decide | omega) (v := .int (v : Nat) tv) (by simp) ?_ sub_const
        wtm_at "gc"
        have e : (1 : Int) - (v : Nat) = ((f row : Nat) : Int) := by rw [hfr]; omega
        rw [e]
        refine kr5 _ _ ?_
        refine kr4 _ _ ?_
        exact fin _ _ _ ⟨post _ _ _ _ S, fun p hp => (S.nw p hp).1⟩
      have hne : op ≠ Str.ofString "not" := by rcases hrest with ⟨rfl, -⟩ | ⟨rfl, -⟩ | ⟨rfl, -⟩ <;> exact sne (by decide)
      rw [if_neg (by rw [decide_eq_true_eq]; exact hne)]
      wtm_at "gc"
      refine kn4 _ ?_; clear kn4 kr4 K4
      refine x_seq ?_; intro K6 kn6 kr6
      wtm_at "gc"
      refine m_get (f := 409) D S I (by kernel_rfl) (by kernel_rfl) ?_
      refine cw_K D (by kernel_rfl) ?_ (by rfl) (by rfl)
      wtm_at "gc"
      refine ⟨S.kin D, ?_⟩
      refine wp_call (op_ok D (hr'.less (by first | decide | omega) : Room A' (0 + 1)) I H (S.sit (xs := []) (cs := bcs c o ++ cs)) hB hBi ?_)
      intro t10 γ10 h10 sm10
      have S := S.same (xs := []) (cs := bcs c o ++ cs) sm10
      rw [List.nil_append] at S
      have s10 := sm10.1.sub
      have I := I.sub s10
      have H := H.sub s10
      have g_bank := s10 _ _ g_bank
      have hD7 := s10 _ _ hD7
      wtm_at "gc"
      rename_i tx ty
      refine ⟨small (by simp), ?_⟩
      obtain ⟨γx, rx, hsz, sx, hrx, S⟩ := S.madeX (tu [.str (Str.ofString "and") tx, .str (Str.ofString "or") ty] 0) rfl
      rw [hsz]
      have I := I.sub sx
      have H := H.sub sx
      have g_bank := sx _ _ g_bank
      have hD7 := sx _ _ hD7
      refine inS_T2 (S.get hrx) ?_
      wtm_at "gc"
      obtain ⟨rfl, hm1, hm2⟩ | ⟨rfl, hm1, hm2⟩ | ⟨rfl, a, b, rfl, hfr⟩ := hrest
      · rw [if_pos (by simp)]
        refine x_seq ?_; intro K7 kn7 kr7
        wtm_at "gc"
        refine m_get (f := 409) D S I (by kernel_rfl) (by kernel_rfl) ?_
        refine cw_K D (by kernel_rfl) ?_ (by rfl) (by rfl)
        wtm_at "gc"
        refine ⟨S.kin D, ?_⟩
        refine wp_call (op_ok D (hr'.less (by first | decide | omega) : Room A' (0 + 1)) I H (S.sit (xs := []) (cs := bcs c o ++ cs)) hB hBi ?_)
        intro t11 γ11 h11 sm11
        have S := S.same (xs := []) (cs := bcs c o ++ cs) sm11
        rw [List.nil_append] at S
        have s11 := sm11.1.sub
        have I := I.sub s11
        have H := H.sub s11
        have g_bank := s11 _ _ g_bank
        have hD7 := s11 _ _ hD7
        wtm_at "gc"
        refine o_eqs ?_
        wtm_at "gc"
        rw [if_pos (by simp)]
        wtm_at "gc"
        refine n_bi (v := .builtin "min") (by assumption) (by assumption) (by assumption) (ns_min _) (by kernel_rfl) (sne (by decide)) ?_ (by kernel_rfl) (by kernel_rfl)
        refine cw_B (by rfl) ?_ (by rfl) (by rfl)
        wtm_at "gc"
        refine c_min hr'.h S (S.get hD7) hys.ints (by have := List.length_pos_of_mem hm1; simpa using this) ?_
        intro M t12 h12 hM1 hM2 S
        have e : M = ((f row : Nat) : Int) := by
          obtain ⟨v, hv, rfl⟩ := List.mem_map.mp hM1
          have h1 := hm2 v hv
          have h2 := hM2 _ (List.mem_map.mpr ⟨f row, hm1, rfl⟩)
          omega
        rw [e]
        refine kr7 _ _ ?_
        refine kr6 _ _ ?_
        exact fin _ _ _ ⟨post _ _ _ _ S, fun p hp => (S.nw p hp).1⟩
      · rw [if_pos (by simp)]
        refine x_seq ?_; intro K7 kn7 kr7
        wtm_at "gc"
        refine m_get (f := 409) D S I (by kernel_rfl) (by kernel_rfl) ?_
        refine cw_K D (by kernel_rfl) ?_ (by rfl) (by rfl)
        wtm_at "gc"
        refine ⟨S.kin D, ?_⟩
        refine wp_call (op_ok D (hr'.less (by first | decide | omega) : Room A' (0 + 1)) I H (S.sit (xs := []) (cs := bcs c o ++ cs)) hB hBi ?_)
        intro t11 γ11 h11 sm11
        have S := S.same (xs := []) (cs := bcs c o ++ cs) sm11
        rw [List.nil_append] at S
        have s11 := sm11.1.sub
        have I := I.sub s11
        have H := H.sub s11
        have g_bank := s11 _ _ g_bank
        have hD7 := s11 _ _ hD7
        wtm_at "gc"
        refine o_eqs ?_
        wtm_at "gc"
        rw [if_neg (by rw [decide_eq_true_eq]; exact sne (by decide))]
        wtm_at "gc"
        refine n_bi (v := .builtin "max") (by assumption) (by assumption) (by assumption) (ns_max _) (by kernel_rfl) (sne (by decide)) ?_ (by kernel_rfl) (by kernel_rfl)
        refine cw_B (by rfl) ?_ (by rfl) (by rfl)
        wtm_at "gc"
        refine c_max hr'.h S (S.get hD7) hys.ints (by have := List.length_pos_of_mem hm1; simpa using this) ?_
        intro M t12 h12 hM1 hM2 S
        have e : M = ((f row : Nat) : Int) := by
          obtain ⟨v, hv, rfl⟩ := List.mem_map.mp hM1
          have h1 := hm2 v hv
          have h2 := hM2 _ (List.mem_map.mpr ⟨f row, hm1, rfl⟩)
          omega
        rw [e]
        refine kr7 _ _ ?_
        refine kr6 _ _ ?_
        exact fin _ _ _ ⟨post _ _ _ _ S, fun p hp => (S.nw p hp).1⟩
      · rw [if_neg (by simp [(sne (by decide) : Str.ofString "and" ≠ Str.ofString "=>"), (sne (by decide) : Str.ofString "or" ≠ Str.ofString "=>")])]
        wtm_at "gc"
        refine kn6 _ ?_; clear kn6 kr6 K6
        refine x_seq ?_; intro K8 kn8 kr8
        wtm_at "gc"
        refine n_bi (v := .type "int") (by assumption) (by assumption) (by assumption) (ns_int _) (by kernel_rfl) (sne (by decide)) ?_ (by kernel_rfl) (by kernel_rfl)
        refine cw_B (by rfl) ?_ (by rfl) (by rfl)
        wtm_at "gc"
        obtain ⟨ta, us', rfl, hys'⟩ := hys.uncons
        obtain ⟨tb, us'', rfl, hys''⟩ := hys'.uncons
        cases hys''
        refine i_list (S.get hD7) (by first | decide | omega) (by first | decide | omega) (v := .int (a : Nat) ta) (by simp) ?_ sub_const
        wtm_at "gc"
        refine e_neg ?_
        intro tn
        refine i_listn (S.get hD7) (by first | decide | omega) (by simp) (by first | decide | omega) (v := .int (b : Nat) tb) (by simp) ?_ sub_un
        wtm_at "gc"
        refine c_intb ?_
        intro tz
        have e : (if decide ((a : Int) ≤ (b : Nat)) = true then (1 : Int) else 0) = ((f row : Nat) : Int) := by
          rw [hfr]
          by_cases h : a ≤ b
          · rw [if_pos h, if_pos (by rw [decide_eq_true_eq]; omega)]; rfl
          · rw [if_neg h, if_neg (by rw [decide_eq_true_eq]; omega)]; rfl
        rw [e]
        refine kr8 _ _ ?_
        exact fin _ _ _ ⟨post _ _ _ _ S, fun p hp => (S.nw p hp).1⟩
theorem pick_int {G : Gl} {A : Around} {h : Heap} {env : Env} {b : Bool} {i j : Int} {k k' : Nat} {p p' : Pos} {Q : Value → Heap → Prop} (q : ∀ t, Q (.int (if b = true then i else j) t) h) :
    if b = true then WP G A (eval (.Constant (.int i) k p) env) Q h else WP G A (eval (.Constant (.int j) k' p') env) Q h := by
  cases b with
  | true => rw [if_pos rfl]; exact e_int q
  | false => rw [if_neg (by decide)]; exact e_int q

theorem part_ok {G : Gl} (D : Gd G) {c : BC} {q1 q2 : Tok} {cs : Led} {aR aO aC aW aN : Addr} {oW : Obj} {vC nvs : List Value} {eC eN : Nat} {ns : List Int}
    (hs : (c.a5 == sysModules) = false) (hsO : (aO == sysModules) = false) (hIC : IntsAre vC ns) (hlC : vC.length ≤ 63)
    (hW : oW.IsDictOf (Skd G) [(Str.ofString "bank", .ref c.b), (Str.ofString "names", .ref aN), (Str.ofString "opened", .ref aO)]) (hNN : Nats nvs [3, 4, 5, 6]) :
    ∀ (d : Nat) {A : Around} {h : Heap} {γ : Pm} {n : Nat} {o : BO} {B : List TKey} {oR oO : Obj} {kvs : List (Int × Value)} {k : Int} {td : Tok} {R : Value → Heap → Prop}, d ≤ 2 → Room A (n + 3 * d + 5) → Ins G γ c.b 622 (bkv c (bful q1 q2)) → BR G γ o B → OpenedR G γ oO B kvs →
      B0 <+: B → B.length + 4 ^ d ≤ 1000000 → RopeO G oR aC k → 0 ≤ k → γ aC = some (lo vC eC) → γ aW = some oW → γ aN = some (lo nvs eN) → Sit G γ ((aR, oR) :: (aO, oO) :: (bcs c o ++ cs)) h →
      (∀ v p oR' k' oO' kvs' o' B' γ' h', PartV γ' v p → PtR B' d p → RopeO G oR' aC k' → 0 ≤ k' → OpenedR G γ' oO' B' kvs' → BR G γ' o' B' → B <+: B' → B'.length ≤ B.length + 4 ^ d →
        Post γ h (((aR, oR) :: (aO, oO) :: (bcs c o ++ cs)).map (·.1)) γ' h' → (∀ p ∈ (aR, oR') :: (aO, oO') :: (bcs c o' ++ cs), h'.get? p.1 = some p.2) → R v h') →
      CD G A (.call (.ref 636) ⟨[.ref aR, .ref aW, .int (d : Nat) td], []⟩) (Ret R) h := by
  intro d
  induction d using Nat.strongRecOn with
  | ind d ih =>
  intro A h γ n o B oR oO kvs k td R hd hr I H hO hB0 hB hRp hk0 g_C g_W g_N T fin
  refine call_defC D T hr (st := topAt 27) (nm := Str.ofString "_law_part") (ql := Str.ofString "_law_part") (pm := (Value.str (Str.ofString "law_qz0017_01") 1020)) (cd := .ref 635) (binds := [(Str.ofString "rope", .ref aR), (Str.ofString "world", .ref aW), (Str.ofString "deep", .int (d : Nat) td)]) (bl := []) (bc := [(Str.ofString "rope", .ref aR), (Str.ofString "world", .ref aW), (Str.ofString "deep", .int (d : Nat) td)]) (cells := fun N => [(Str.ofString "some", N + 4), (Str.ofString "way", N + 3), (Str.ofString "deep", N + 2), (Str.ofString "world", N + 1), (Str.ofString "rope", N)]) (by kernel_rfl) (by kernel_rfl) (by kernel_rfl) (by intro N; rfl) (by decide +kernel) (by intro N; rfl) (by kernel_rfl) (by kernel_rfl) (by intro x hx; simp at hx; rcases hx with rfl | rfl | rfl <;> exact ⟨by kernel_rfl, by simp⟩) (by kernel_rfl) (by kernel_rfl) (by kernel_rfl) ?_
  intro an L h₁ en A' ce E hcel hr' CA ceUp post S
  generalize hb : fBod (topAt 27) = b
  conv at hb => lhs; whnf
  subst hb
  cases CA with | cons c0 v0 CA =>
  cases CA with | cons c1 v1 CA =>
  cases CA with | cons c2 v2 CA =>
  cases CA with | cons c3 v3 CA =>
  cases CA with | cons c4 v4 CA =>
  cases CA
  rename_i oc_some vc_some oc_way vc_way oc_deep vc_deep oc_world vc_world oc_rope vc_rope
  have d_some : oc_some.data = .cell none := by rw [c0, v0]; rfl
  have d_way : oc_way.data = .cell none := by rw [c1, v1]; rfl
  have d_deep : oc_deep.data = .cell (some (.int (d : Nat) td)) := by rw [c2, v2]; rfl
  have d_world : oc_world.data = .cell (some (.ref aW)) := by rw [c3, v3]; rfl
  have d_rope : oc_rope.data = .cell (some (.ref aR)) := by rw [c4, v4]; rfl
  clear c0 v0 c1 v1 c2 v2 c3 v3 c4 v4
  have up_some : an.h0.objs.size ≤ L + 1 + 4 := ceUp (L + 1 + 4, oc_some) (by simp)
  have up_way : an.h0.objs.size ≤ L + 1 + 3 := ceUp (L + 1 + 3, oc_way) (by simp)
  have up_deep : an.h0.objs.size ≤ L + 1 + 2 := ceUp (L + 1 + 2, oc_deep) (by simp)
  have up_world : an.h0.objs.size ≤ L + 1 + 1 := ceUp (L + 1 + 1, oc_world) (by simp)
  have up_rope : an.h0.objs.size ≤ L + 1 := ceUp (L + 1, oc_rope) (by simp)
  clear ceUp
  simp only [puts, List.foldl] at S
  simp only [List.cons_append, List.nil_append] at S
  obtain ⟨γ1, s1, g_rope, S⟩ := S.frzR (o := oc_rope) (by wtm_at "r") up_rope
  obtain ⟨γ2, s2, g_world, S⟩ := S.frzR (o := oc_world) (by wtm_at "r") up_world
  obtain ⟨γ3, s3, g_deep, S⟩ := S.frzR (o := oc_deep) (by wtm_at "r") up_deep
  have g_world := s3 _ _ g_world
  have g_rope := s3 _ _ (s2 _ _ g_rope)
  have s13 := (s1.trans s2).trans s3
  have I := I.sub s13
  have H := H.sub s13
  have hO := hO.sub s13
  have g_C := s13 _ _ g_C
  have g_W := s13 _ _ g_W
  have g_N := s13 _ _ g_N
  have hr1 : Room A' (0 + 1) := hr'.less (by first | decide | with_reducible assumption | omega)
  have hr3 : Room A' (0 + 3) := hr'.less (by first | decide | with_reducible assumption | omega)
  refine x_seq ?_; intro K1 kn1 kr1
  wtm_at "gc"
  refine n_glob (v := .ref 631) (by assumption) (by assumption) (by assumption) (ns__law_next _) ?_ (by kernel_rfl) (by kernel_rfl)
  refine cw_K D (by kernel_rfl) ?_ (by rfl) (by rfl)
  wtm_at "gc"
  refine pick_int ?_
  intro tm
  wtm_at "gc"
  refine ⟨S.kin D, ?_⟩
  refine wp_call (next_ok D hr1 (S.sit (xs := [(L + 1 + 4, _), (L + 1 + 3, _)]) (cs := (aR, oR) :: (aO, oO) :: (bcs c o ++ cs))) hRp g_C hIC hlC hk0 (by split <;> omega) ?_)
  intro w t1 oR1 γ4 h4 hw0 hwm hRp P4 C4
  have S := S.after (xs := [(L + 1 + 4, _), (L + 1 + 3, _)]) (cs := (aR, oR) :: (aO, oO) :: (bcs c o ++ cs)) P4 (cs' := (aR, oR1) :: (aO, oO) :: (bcs c o ++ cs)) rfl C4
  simp only [List.cons_append, List.nil_append] at S
  have s4 := P4.sub
  have I := I.sub s4
  have H := H.sub s4
  have hO := hO.sub s4
  have g_C := s4 _ _ g_C
  have g_W := s4 _ _ g_W
  have g_N := s4 _ _ g_N
  have g_rope := s4 _ _ g_rope
  have g_world := s4 _ _ g_world
  have g_deep := s4 _ _ g_deep
  obtain ⟨w, rfl⟩ : ∃ w' : Nat, w = (w' : Nat) := ⟨w.toNat, by omega⟩
  refine l_cell S E (by rw [hcel]; wtm_at "lc") (fun _ => by wtm_at "u") d_way ?_ (by kernel_rfl)
  intro oc_way2 h5 d_way S
  obtain ⟨γ5, s5, g_way, S⟩ := S.frzR (o := oc_way2) (by wtm_at "r") up_way
  have I := I.sub s5
  have H := H.sub s5
  have hO := hO.sub s5
  have g_C := s5 _ _ g_C
  have g_W := s5 _ _ g_W
  have g_N := s5 _ _ g_N
  have g_rope := s5 _ _ g_rope
  have g_world := s5 _ _ g_world
  have g_deep := s5 _ _ g_deep
  refine kn1 _ ?_; clear kn1 kr1 K1
  refine x_seq ?_; intro K2 kn2 kr2
  wtm_at "gc"
  by_cases hw4 : w < 4
  · rw [if_pos (by rw [decide_eq_true_eq]; omega)]
    refine x_seq ?_; intro K3 kn3 kr3
    wtm_at "gc"
    obtain ⟨tn, hn⟩ := hNN.got (i := w) (n := 3 + w) (by
      match w, hw4 with
      | 0, _ => rfl
      | 1, _ => rfl
      | 2, _ => rfl
      | 3, _ => rfl)
    refine i_list (S.get g_N) (by first | decide | with_reducible assumption | omega) (by first | decide | with_reducible assumption | omega) (by simpa using hn) ?_ sub_name
    wtm_at "gc"
    refine i_list (S.get g_N) (by first | decide | with_reducible assumption | omega) (by first | decide | with_reducible assumption | omega) (by simpa using hn) ?_ sub_name
    wtm_at "gc"
    refine ⟨small (by simp), ?_⟩
    obtain ⟨γ6, r6, hsz, s6, hr6, S⟩ := S.madeX (lo [.int (3 + w : Nat) tn] 0) rfl
    rw [hsz]
    have I := I.sub s6
    have H := H.sub s6
    have hO := hO.sub s6
    have g_C := s6 _ _ g_C
    have g_W := s6 _ _ g_W
    have g_N := s6 _ _ g_N
    have g_rope := s6 _ _ g_rope
    have g_world := s6 _ _ g_world
    have g_deep := s6 _ _ g_deep
    have g_way := s6 _ _ g_way
    wtm_at "gc"
    refine e_LC ?_ (by intro _; rfl) (cl := [(Str.ofString "way", L + 1 + 3)]) (by rw [hcel]; kernel_rfl) (by kernel_rfl)
    wtm_at "gc"
    refine n_bi (v := .type "range") (by assumption) (by assumption) (by assumption) (ns_range _) (by kernel_rfl) (sne (by decide)) ?_ (by kernel_rfl) (by kernel_rfl)
    refine cw_B (by rfl) ?_ (by rfl) (by rfl)
    wtm_at "gc"
    refine c_range (n := 16) S ?_
    intro r7 γ7 h7 ta tb tc s7 hr7 S
    refine it_range S hr7 (by first | decide | with_reducible assumption | omega) ?_
    intro I8 oI8 h8 ok8 S8
    have I := I.sub s7
    have H := H.sub s7
    have hO := hO.sub s7
    have g_C := s7 _ _ g_C
    have g_W := s7 _ _ g_W
    have g_N := s7 _ _ g_N
    have g_rope := s7 _ _ g_rope
    have g_world := s7 _ _ g_world
    have g_deep := s7 _ _ g_deep
    have g_way := s7 _ _ g_way
    refine lcg (cl := [(Str.ofString "way", L + 1 + 3)]) (fun j ys _ led => Nats ys ((col fun r => r / 2 ^ w % 2).take j) ∧ led = (L + 1 + 4, oc_some) :: (aR, oR1) :: (aO, oO) :: (bcs c o ++ cs)) E (It.range hr'.h) ok8 S8 ⟨.nil, rfl⟩ (by first | decide | with_reducible assumption | omega) (by rw [hcel]; kernel_rfl) (by kernel_rfl) ?_ ?_
    · rintro j ys v γ9 led9 h9 C mC I9 oI9 oL9 D9 k9 en9 hj ⟨tv, rfl⟩ hyl s9 ⟨hys, rfl⟩ E9 hce9 S9
      have g_way := s9 _ _ g_way
      wtm_at "gc"
      refine o_pow (n := w) (by first | decide | with_reducible assumption | omega) ?_
      intro tp
      refine o_fdivn (b := 2 ^ w) (Nat.two_pow_pos w) (Nat.pow_lt_pow_right (by first | decide | with_reducible assumption | omega) (by first | decide | with_reducible assumption | omega)) (by first | decide | with_reducible assumption | omega) ?_
      intro tq
      wtm_at "gc"
      refine o_modn (b := 2) (by first | decide | with_reducible assumption | omega) ?_
      intro tr
      exact ⟨γ9, _, _, Sub.refl _, ⟨by rw [col_snoc hj]; exact hys.append (.cons .nil), rfl⟩, S9⟩
    · rintro D9 ys k9 γ9 γ10 led9 h9 hyl s9 s10 ⟨hys, rfl⟩ hD9 S9
      wtm_at "gc"
      refine ⟨small (by simp), ?_⟩
      obtain ⟨γ11, r11, hsz, s11, hr11, S⟩ := S9.madeX (tu [.int (3 + w : Nat) tn, .ref r6, .ref D9] 0) rfl
      rw [hsz]
      have s610 := ((s7.trans s9).trans s10).trans s11
      have s710 := (s9.trans s10).trans s11
      refine kr3 _ _ ?_
      refine kr2 _ _ ?_
      refine fin _ ⟨3 + w, [3 + w], fun r => r / 2 ^ w % 2⟩ oR1 (k + 1) oO kvs o B γ11 _ ⟨r11, tn, r6, D9, 0, _, 0, _, k9, rfl, hr11, s610 _ _ hr6, .cons .nil, s11 _ _ hD9, ?_⟩ (.name hw4 (B0.names hB0 w hw4)) hRp (by first | decide | with_reducible assumption | omega) (hO.sub s710) (H.sub s710) List.prefix_rfl (Nat.le_add_right _ _) (post _ _ _ _ S) (fun p hp => (S.nw p (.tail _ hp)).1)
      rw [List.take_of_length_le (by simp)] at hys
      exact hys
  · rw [if_neg (by rw [decide_eq_true_eq]; omega)]
    have hd0 : d ≠ 0 := fun e => by subst e; simp at hwm; omega
    obtain ⟨d, rfl⟩ : ∃ d', d = d' + 1 := ⟨d - 1, by omega⟩
    have hw8 : w < 8 := by
      split at hwm <;> omega
    clear hwm
    wtm_at "gc"
    refine kn2 _ ?_; clear kn2 kr2 K2
    refine x_seq ?_; intro K4 kn4 kr4
    wtm_at "gc"
    refine n_store (by assumption) E ?_ (by kernel_rfl); intro _ S
    refine kn4 _ ?_; clear kn4 kr4 K4
    obtain ⟨m5, m_bank, S⟩ : ∃ m5 : Mp, m5 (Str.ofString "bank") = some (.ref c.b) ∧ St G an γ5 L m5 ((L + 1 + 4, oc_some) :: (aR, oR1) :: (aO, oO) :: (bcs c o ++ cs)) _ := ⟨_, by wtm_at "lk", S⟩
    refine x_seq ?_; intro K5 kn5 kr5
    have key5 : ∀ (M : Nat) (tM : Tok) γ6 h6, Sub γ5 γ6 → ((M = 2 ∧ (w = 4 ∨ w = 6)) ∨ (M = 1 ∧ w = 5) ∨ (M = 3 ∧ w = 7)) → St G an γ6 L (put m5 (Str.ofString "many") (.int (M : Nat) tM)) ((L + 1 + 4, oc_some) :: (aR, oR1) :: (aO, oO) :: (bcs c o ++ cs)) h6 → K5 .next h6 := by
      clear S
      intro M tM γ6 h6 s6 hM S
      have I := I.sub s6
      have H := H.sub s6
      have hO := hO.sub s6
      have g_C := s6 _ _ g_C
      have g_W := s6 _ _ g_W
      have g_N := s6 _ _ g_N
      have g_rope := s6 _ _ g_rope
      have g_world := s6 _ _ g_world
      have g_deep := s6 _ _ g_deep
      have g_way := s6 _ _ g_way
      refine kn5 _ ?_; clear kn5 kr5 K5
      refine x_seq ?_; intro K6 kn6 kr6
      refine x_Assign ?_ (swaps_of E fun e => by kernel_rfl)
      refine e_LC ?_ (by intro _; rfl) (cl := [(Str.ofString "world", L + 1 + 1), (Str.ofString "rope", L + 1), (Str.ofString "deep", L + 1 + 2)]) (by rw [hcel]; kernel_rfl) (by kernel_rfl)
      wtm_at "gc"
      refine n_bi (v := .type "range") (by assumption) (by assumption) (by assumption) (ns_range _) (by kernel_rfl) (sne (by decide)) ?_ (by kernel_rfl) (by kernel_rfl)
      refine cw_B (by rfl) ?_ (by rfl) (by rfl)
      wtm_at "gc"
      refine c_range (n := M) S ?_
      intro r7 γ7 h7 ta tb tc s7 hr7 S
      refine it_range S hr7 (by first | decide | with_reducible assumption | omega) ?_
      intro I8 oI8 h8 ok8 S8
      have I := I.sub s7
      have H := H.sub s7
      have hO := hO.sub s7
      have g_C := s7 _ _ g_C
      have g_W := s7 _ _ g_W
      have g_N := s7 _ _ g_N
      have g_rope := s7 _ _ g_rope
      have g_world := s7 _ _ g_world
      have g_deep := s7 _ _ g_deep
      have g_way := s7 _ _ g_way
      have hq : 4 ^ (d + 1) = 4 * 4 ^ d := by rw [Nat.pow_succ]; omega
      generalize hq4 : 4 ^ d = q at hq
      have hM3 : M ≤ 3 := by omega
      refine lcg (cl := [(Str.ofString "world", L + 1 + 1), (Str.ofString "rope", L + 1), (Str.ofString "deep", L + 1 + 2)]) (fun j ys γ' led => ∃ ps oR' k' oO' kvs' o' B', led = (L + 1 + 4, oc_some) :: (aR, oR') :: (aO, oO') :: (bcs c o' ++ cs) ∧ PartsV γ' ys ps ∧ (∀ p ∈ ps, PtR B' d p) ∧ RopeO G oR' aC k' ∧ 0 ≤ k' ∧ OpenedR G γ' oO' B' kvs' ∧ BR G γ' o' B' ∧ B <+: B' ∧ B'.length ≤ B.length + j * q) E (It.range hr'.h) ok8 S8
        ⟨[], oR1, k + 1, oO, kvs, o, B, rfl, .nil, (fun p hp => nomatch hp), hRp, by omega, hO, H, List.prefix_rfl, by omega⟩ (by first | decide | with_reducible assumption | omega) (by rw [hcel]; kernel_rfl) (by kernel_rfl) ?_ ?_
      · rintro j ys v γ9 led9 h9 C mC I9 oI9 oL9 D9 k9 en9 hj ⟨tv, rfl⟩ hyl s9 ⟨ps, oR2, k2, oO2, kvs2, o2, B2, rfl, hps, hpr, hRp2, hk2, hO2, H2, hpre, hlen⟩ E9 hce9 S9
        have I := I.sub s9
        have g_C := s9 _ _ g_C
        have g_W := s9 _ _ g_W
        have g_N := s9 _ _ g_N
        have g_rope := s9 _ _ g_rope
        have g_world := s9 _ _ g_world
        have g_deep := s9 _ _ g_deep
        wtm_at "gc"
        refine n_glob (v := .ref 636) (by assumption) (by assumption) (by assumption) (ns__law_part _) ?_ (by kernel_rfl) (by kernel_rfl)
        refine cw_K D (by kernel_rfl) ?_ (by rfl) (by rfl)
        wtm_at "gc"
        rw [show (((d + 1 : Nat) : Int) - 1) = (d : Nat) by omega]
        refine ⟨S9.kin D, ?_⟩
        have hjq : j * q ≤ 2 * q := Nat.mul_le_mul_right q (by first | decide | with_reducible assumption | omega)
        have hjs : (j + 1) * q = j * q + q := Nat.succ_mul j q
        refine wp_call (ih d (by first | decide | with_reducible assumption | omega) (by first | decide | with_reducible assumption | omega) (hr'.less (by first | decide | with_reducible assumption | omega) : Room A' (n + 3 * d + 5)) I H2 hO2 (hB0.trans hpre) (by first | decide | with_reducible assumption | omega) hRp2 hk2 g_C g_W g_N (S9.sit (xs := [(I9, _), (L, _), (D9, _), (L + 1 + 4, _)]) (cs := (aR, oR2) :: (aO, oO2) :: (bcs c o2 ++ cs))) ?_)
        intro v p oR3 k3 oO3 kvs3 o3 B3 γ10 h10 hpv hpt hRp3 hk3 hO3 H3 hpre3 hlen3 P10 C10
        have S10 := S9.after (xs := [(I9, _), (L, _), (D9, _), (L + 1 + 4, _)]) (cs := (aR, oR2) :: (aO, oO2) :: (bcs c o2 ++ cs)) P10 (cs' := (aR, oR3) :: (aO, oO3) :: (bcs c o3 ++ cs)) rfl C10
        refine ⟨γ10, _, _, P10.sub, ⟨ps ++ [p], oR3, k3, oO3, kvs3, o3, B3, rfl, (hps.sub P10.sub).snoc hpv, fun p' hp' => ?_, hRp3, hk3, hO3, H3, hpre.trans hpre3, by omega⟩, S10⟩
        rcases List.mem_append.mp hp' with hp' | hp'
        · exact (hpr p' hp').mono hpre3
        · rw [List.mem_singleton] at hp'; subst hp'; exact hpt
      · rintro D9 ys k9 γ9 γ10 led9 h9 hyl s9 s10 ⟨ps, oR2, k2, oO2, kvs2, o2, B2, rfl, hps, hpr, hRp2, hk2, hO2, H2, hpre, hlen⟩ hD9 S
        have s910 := s9.trans s10
        have H := H2.sub s10
        have hO := hO2.sub s10
        have hps := hps.sub s10
        have I := I.sub s910
        have g_C := s910 _ _ g_C
        have g_W := s910 _ _ g_W
        have g_N := s910 _ _ g_N
        have g_rope := s910 _ _ g_rope
        have g_world := s910 _ _ g_world
        have g_deep := s910 _ _ g_deep
        have g_way := s910 _ _ g_way
        have hlps : ps.length = M := by rw [← hps.len]; exact hyl
        have hB2 := hB0.trans hpre
        have hB7 : 7 ≤ B2.length := hB2.length_le
        refine l_cell S E (by rw [hcel]; wtm_at "lc") (fun _ => by wtm_at "u") d_some ?_ (by kernel_rfl)
        intro oc_some2 h10 d_some2 S
        obtain ⟨γ11, s11, g_some, S⟩ := S.frzR (o := oc_some2) (by wtm_at "r") up_some
        have g_D := s11 _ _ hD9
        have I := I.sub s11
        have H := H.sub s11
        have hO := hO.sub s11
        have g_C := s11 _ _ g_C
        have g_W := s11 _ _ g_W
        have g_N := s11 _ _ g_N
        have g_rope := s11 _ _ g_rope
        have g_world := s11 _ _ g_world
        have g_deep := s11 _ _ g_deep
        have g_way := s11 _ _ g_way
        have hps := hps.sub s11
        refine kn6 _ ?_; clear kn6 kr6 K6
        refine x_seq ?_; intro K7 kn7 kr7
        refine x_Swap (names := [Str.ofString "terms", Str.ofString "columns"]) (swapped_of E fun e => by kernel_rfl) (by rfl) ?_
        wtm_at "gc"
        refine e_LC ?_ (by intro _; rfl) (cl := []) (by rw [hcel]; kernel_rfl) (by kernel_rfl)
        wtm_at "gc"
        refine it_list S (S.get g_D) ?_
        intro I12 oI12 h12 ok12 S12
        refine lcg (cl := []) (fun j zs _ led => Nats zs ((ps.map (·.i)).take j) ∧ led = (aR, oR2) :: (aO, oO2) :: (bcs c o2 ++ cs)) E (It.list hr'.h g_D) ok12 S12 ⟨.nil, rfl⟩ (by first | decide | with_reducible assumption | omega) (by rw [hcel]; kernel_rfl) (by kernel_rfl) ?_ ?_
        · rintro j zs v γ13 led13 h13 C mC I13 oI13 oL13 D13 k13 en13 hj hv hyl13 s13 ⟨hzs, rfl⟩ E13 hce13 S13
          obtain ⟨p, hp, r, t, a1, a2, e0, vs1, e1, vs2, e2, rfl, hr1, hr2, hr3, hr4, hr5⟩ := hps.get hv
          wtm_at "gc"
          refine i_tup (S13.get (s13 _ _ hr1)) (by first | decide | with_reducible assumption | omega) (by first | decide | with_reducible assumption | omega) (j := 0) (by rfl) rfl ?_ sub_const
          exact ⟨γ13, _, _, Sub.refl _, ⟨by rw [List.take_add_one, List.getElem?_map, hp]; exact hzs.append (.cons .nil), rfl⟩, S13⟩
        rintro DT zs kT γ13 γ14 led13 h13 hyl13 s13 s14 ⟨hzs, rfl⟩ g_T S
        rw [List.take_of_length_le (by rw [List.length_map]; omega)] at hzs
        have s1314 := s13.trans s14
        have I := I.sub s1314
        have H := H.sub s1314
        have hO := hO.sub s1314
        have g_C := s1314 _ _ g_C
        have g_W := s1314 _ _ g_W
        have g_N := s1314 _ _ g_N
        have g_rope := s1314 _ _ g_rope
        have g_world := s1314 _ _ g_world
        have g_deep := s1314 _ _ g_deep
        have g_way := s1314 _ _ g_way
        have g_some := s1314 _ _ g_some
        have g_D := s1314 _ _ g_D
        have hps := hps.sub s1314
        wtm_at "gc"
        refine e_LCX ?_ (by intro _; rfl) (cl := [(Str.ofString "some", L + 1 + 4)]) (by rw [hcel]; kernel_rfl) (by kernel_rfl)
        wtm_at "gc"
        refine n_bi (v := .type "range") (by assumption) (by assumption) (by assumption) (ns_range _) (by kernel_rfl) (sne (by decide)) ?_ (by kernel_rfl) (by kernel_rfl)
        refine cw_B (by rfl) ?_ (by rfl) (by rfl)
        wtm_at "gc"
        refine c_range (n := 16) S ?_
        intro r15 γ15 h15 ta tb tc s15 hr15 S
        refine it_range S hr15 (by first | decide | with_reducible assumption | omega) ?_
        intro I16 oI16 h16 ok16 S16
        have I := I.sub s15
        have H := H.sub s15
        have hO := hO.sub s15
        have g_C := s15 _ _ g_C
        have g_W := s15 _ _ g_W
        have g_N := s15 _ _ g_N
        have g_rope := s15 _ _ g_rope
        have g_world := s15 _ _ g_world
        have g_deep := s15 _ _ g_deep
        have g_way := s15 _ _ g_way
        have g_some := s15 _ _ g_some
        have g_D := s15 _ _ g_D
        have hps := hps.sub s15
        have g_T := s15 _ _ g_T
        refine lcx_cell (cl := [(Str.ofString "some", L + 1 + 4)]) (y := Str.ofString "row") (fun j ws γ' led => Cols γ' ws j (fun r => ps.map fun p => p.f r) ∧ led = (aR, oR2) :: (aO, oO2) :: (bcs c o2 ++ cs)) E (It.range hr'.h) ok16 S16 ⟨⟨rfl, fun r h => absurd h (by first | decide | with_reducible assumption | omega)⟩, rfl⟩ (by first | decide | with_reducible assumption | omega) (by rw [hcel]; kernel_rfl) (by intro N; rfl) (by intro h; rfl) (by kernel_rfl) (by kernel_rfl) ?_ ?_
        · rintro j ws v γ17 led17 h17 C mC I17 oI17 oL17 D17 K17 oK17 k17 en17 hj ⟨tv, rfl⟩ hyl17 s17 ⟨hws, rfl⟩ E17 hce17 d_row S17
          have g_some := s17 _ _ g_some
          have g_D := s17 _ _ g_D
          have hps := hps.sub s17
          refine e_LC ?_ (by intro _; rfl) (cl := [(Str.ofString "row", K17)]) (by rw [hce17]; kernel_rfl) (by kernel_rfl)
          wtm_at "gc"
          refine it_list S17 (S17.get g_D) ?_
          intro I18 oI18 h18 ok18 S18
          refine lcg (cl := [(Str.ofString "row", K17)]) (fun i zs _ led => Nats zs ((ps.map fun p => p.f j).take i) ∧ led = (K17, oK17) :: (I17, oI17) :: (L, oL17) :: (D17, lo ws k17) :: (aR, oR2) :: (aO, oO2) :: (bcs c o2 ++ cs)) E17 (It.list hr'.h g_D) ok18 S18 ⟨.nil, rfl⟩ (by first | decide | with_reducible assumption | omega) (by rw [hce17]; kernel_rfl) (by kernel_rfl) ?_ ?_
          · rintro i zs v γ19 led19 h19 C2 mC2 I19 oI19 oL19 D19 k19 en19 hi hv hyl19 s19 ⟨hzs, rfl⟩ E19 hce19 S19
            obtain ⟨p, hp, r, t, a1, a2, e0, vs1, e1, vs2, e2, rfl, hr1, hr2, hr3, hr4, hr5⟩ := hps.get hv
            wtm_at "gc"
            refine i_tup (S19.get (s19 _ _ hr1)) (by first | decide | with_reducible assumption | omega) (by first | decide | with_reducible assumption | omega) (j := 2) (by rfl) rfl ?_ sub_const
            wtm_at "gc"
            obtain ⟨tw, hw⟩ := hr5.got (col_at hj)
            refine i_list (S19.get (s19 _ _ hr4)) (by first | decide | with_reducible assumption | omega) (by first | decide | with_reducible assumption | omega) (by simpa using hw) ?_ sub_name
            exact ⟨γ19, _, _, Sub.refl _, ⟨by rw [List.take_add_one, List.getElem?_map, hp]; exact hzs.append (.cons .nil), rfl⟩, S19⟩
          · rintro D20 zs k20 γ20 γ21 led20 h20 hyl20 s20 s21 ⟨hzs, rfl⟩ hD20 S20
            rw [List.take_of_length_le (by rw [List.length_map]; omega)] at hzs
            exact ⟨γ21, _, _, s20.trans s21, ⟨(hws.sub (s20.trans s21)).snoc hD20 hzs, rfl⟩, S20⟩
        rintro DC C17 oC17 mC17 ws k17 γ17 γ18 led17 h17 t17 hyl17 s17 s18 ⟨hws, rfl⟩ g_Cl hn17 S17
        refine post_val hn17 S17 ?_
        intro h18 S
        have hws := hws.sub s18
        have s1718 := s17.trans s18
        have I := I.sub s1718
        have H := H.sub s1718
        have hO := hO.sub s1718
        have g_C := s1718 _ _ g_C
        have g_W := s1718 _ _ g_W
        have g_N := s1718 _ _ g_N
        have g_rope := s1718 _ _ g_rope
        have g_world := s1718 _ _ g_world
        have g_deep := s1718 _ _ g_deep
        have g_way := s1718 _ _ g_way
        have g_some := s1718 _ _ g_some
        have g_D := s1718 _ _ g_D
        have hps := hps.sub s1718
        have g_T := s1718 _ _ g_T
        wtm_at "gc"
        refine ⟨small (by simp), ?_⟩
        obtain ⟨γ19, r19, hsz, s19, hr19, S⟩ := S.madeX (tu [.ref DT, .ref DC] 0) rfl
        rw [hsz]
        have I := I.sub s19
        have H := H.sub s19
        have hO := hO.sub s19
        have g_C := s19 _ _ g_C
        have g_W := s19 _ _ g_W
        have g_N := s19 _ _ g_N
        have g_rope := s19 _ _ g_rope
        have g_world := s19 _ _ g_world
        have g_deep := s19 _ _ g_deep
        have g_way := s19 _ _ g_way
        have g_some := s19 _ _ g_some
        have g_D := s19 _ _ g_D
        have hps := hps.sub s19
        have g_T := s19 _ _ g_T
        have g_Cl := s19 _ _ g_Cl
        have hws := hws.sub s19
        refine u_tup hr'.h S (S.get hr19) rfl ?_
        intro h20 S
        refine io_cons (bn ?_)
        refine n_store (by assumption) E ?_ (by kernel_rfl); intro _ S
        refine io_cons (bn ?_)
        refine n_store (by assumption) E ?_ (by kernel_rfl); intro h22 S
        refine io_nil ?_
        refine kn7 _ ?_; clear kn7 kr7 K7
        obtain ⟨m8, m_bank, m_terms, m_columns, S⟩ : ∃ m8 : Mp, m8 (Str.ofString "bank") = some (.ref c.b) ∧ m8 (Str.ofString "terms") = some (.ref DT) ∧ m8 (Str.ofString "columns") = some (.ref DC) ∧ St G an γ19 L m8 ((aR, oR2) :: (aO, oO2) :: (bcs c o2 ++ cs)) h22 := ⟨_, by wtm_at "lk", by wtm_at "lk", by wtm_at "lk", S⟩
        refine x_seq ?_; intro K8 kn8 kr8
        refine x_If ?_
        refine WP.mono (Q := fun b h' => b = decide (w = 4 ∨ w = 7) ∧ h' = h22) ?_ ?_
        · wtm_at "gc"
          by_cases h4 : w = 4
          · subst h4
            rw [if_pos (by simp)]
            exact ⟨by simp, rfl⟩
          · rw [if_neg (by rw [decide_eq_true_eq]; omega)]
            wtm_at "gc"
            by_cases h7 : w = 7
            · subst h7
              rw [if_pos (by simp)]
              exact ⟨by simp, rfl⟩
            · rw [if_neg (by rw [decide_eq_true_eq]; omega)]
              wtm_at "gc"
              exact ⟨by simp [h4, h7], rfl⟩
        rintro b h' ⟨rfl, rfl⟩
        have hMq : M * q ≤ 3 * q := Nat.mul_le_mul_right q (by first | decide | with_reducible assumption | omega)
        have hq1 : 1 ≤ q := hq4 ▸ Nat.one_le_pow _ _ (by first | decide | with_reducible assumption | omega)
        have hBu : B2.length ≤ 1000000 := by omega
        have hBp : 0 < B2.length := by omega
        by_cases hor : w = 4 ∨ w = 7
        · rw [if_pos (by simpa using hor)]
          have hM : M = 2 ∨ M = 3 := by omega
          have hz2 : 2 ≤ zs.length := by rw [hzs.len, List.length_map]; omega
          have hz100 : zs.length ≤ 100 := by rw [hzs.len, List.length_map]; omega
          refine x_seq ?_; intro K9 kn9 kr9
          refine x_SetSub ?_ (by rfl)
          refine e_LCX ?_ (by intro _; rfl) (cl := []) (by rw [hcel]; kernel_rfl) (by kernel_rfl)
          wtm_at "gc"
          refine it_list S (S.get g_D) ?_
          intro I23 oI23 h23 ok23 S23
          obtain ⟨segs, hsl, hsn, hsg⟩ := hps.segs
          have hfl := flat_len hpr
          have h3d : ps.length * 3 ^ d ≤ 3 * 9 := Nat.mul_le_mul (by first | decide | with_reducible assumption | omega) (show 3 ^ d ≤ 3 ^ 2 from Nat.pow_le_pow_right (by first | decide | with_reducible assumption | omega) (by first | decide | with_reducible assumption | omega))
          refine lcx_flat segs hr'.h E (It.list hr'.h g_D) ok23 S23 hsl hsg (by rw [hsn.len]; omega) (by kernel_rfl) (by kernel_rfl) (by kernel_rfl) (by kernel_rfl) (by kernel_rfl) (by kernel_rfl) (by rw [hcel]; kernel_rfl) ?_
          intro D24 C24 oC24 mC24 k24 γ24 h24 t24 s24 g_F hn24 S24
          refine post_val hn24 S24 ?_
          intro h25 S
          have I := I.sub s24
          have H := H.sub s24
          have hO := hO.sub s24
          have g_C := s24 _ _ g_C
          have g_W := s24 _ _ g_W
          have g_N := s24 _ _ g_N
          have g_rope := s24 _ _ g_rope
          have g_world := s24 _ _ g_world
          have g_deep := s24 _ _ g_deep
          have g_way := s24 _ _ g_way
          have g_some := s24 _ _ g_some
          have g_D := s24 _ _ g_D
          have hps := hps.sub s24
          have g_T := s24 _ _ g_T
          have g_Cl := s24 _ _ g_Cl
          have hws := hws.sub s24
          wtm_at "gc"
          refine m_get (f := 549) D S I (by kernel_rfl) (by kernel_rfl) ?_
          refine cw_K D (by kernel_rfl) ?_ (by rfl) (by rfl)
          wtm_at "gc"
          refine ⟨S.kin D, ?_⟩
          refine wp_call (or_of_ok D hr3 I H (S.sit (xs := [(aR, oR2), (aO, oO2)]) (cs := bcs c o2 ++ cs)) (by first | decide | with_reducible assumption | omega) (by first | decide | with_reducible assumption | omega) hs g_T hzs (parts_at hpr) hz2 hz100 ?_)
          intro i26 t26 o26 B26 γ26 h26 Mk26 H26 P26 C26
          have S := S.after (xs := [(aR, oR2), (aO, oO2)]) (cs := bcs c o2 ++ cs) P26 (cs' := bcs c o26 ++ cs) rfl C26
          simp only [List.cons_append, List.nil_append] at S
          have s26 := P26.sub

          have I := I.sub s26
          have hO := hO.sub s26
          have g_C := s26 _ _ g_C
          have g_W := s26 _ _ g_W
          have g_N := s26 _ _ g_N
          have g_rope := s26 _ _ g_rope
          have g_world := s26 _ _ g_world
          have g_deep := s26 _ _ g_deep
          have g_way := s26 _ _ g_way
          have g_some := s26 _ _ g_some
          have g_D := s26 _ _ g_D
          have hps := hps.sub s26
          have g_T := s26 _ _ g_T
          have g_Cl := s26 _ _ g_Cl
          have hws := hws.sub s26
          have g_F := s26 _ _ g_F
          have H := H26
          have hl26 := Mk26.len
          have hB27 : 7 ≤ B26.length := (hB2.trans Mk26.pre).length_le
          have hBu26 : B26.length ≤ 1000000 := by omega
          have hBp26 : 0 < B26.length := by omega
          obtain ⟨f', hf', hfb⟩ := rep_or (by first | decide | with_reducible assumption | omega) hpr Mk26.pre Mk26.2.1
          have hklen := hO.len
          refine l_seti S (fun _ => by wtm_at "u") hO.dict (small (by first | decide | with_reducible assumption | omega)) ?_
          intro oO3 h27 hd27 S
          have hO := hO.set Mk26 hf' g_F hsn hd27
          refine kn9 _ ?_; clear kn9 kr9 K9
          refine x_seq ?_; intro K10 kn10 kr10
          wtm_at "gc"
          have hpr26 : ∀ p ∈ ps, PtR B26 d p := fun p hp => (hpr p hp).mono Mk26.pre
          refine m_get (f := 549) D S I (by kernel_rfl) (by kernel_rfl) ?_
          refine cw_K D (by kernel_rfl) ?_ (by rfl) (by rfl)
          wtm_at "gc"
          refine ⟨S.kin D, ?_⟩
          refine wp_call (or_of_ok D hr3 I H (S.sit (xs := [(aR, oR2), (aO, oO3)]) (cs := bcs c o26 ++ cs)) (by first | decide | with_reducible assumption | omega) (by first | decide | with_reducible assumption | omega) hs g_T hzs (parts_at hpr26) hz2 hz100 ?_)
          intro i28 t28 o28 B28 γ28 h28 Mk28 H28 P28 C28
          have S := S.after (xs := [(aR, oR2), (aO, oO3)]) (cs := bcs c o26 ++ cs) P28 (cs' := bcs c o28 ++ cs) rfl C28
          simp only [List.cons_append, List.nil_append] at S
          have s28 := P28.sub

          obtain ⟨e1, e2⟩ := Made.again H28 Mk26 Mk28
          subst e1 e2
          have H := H28
          have I := I.sub s28
          have g_C := s28 _ _ g_C
          have g_W := s28 _ _ g_W
          have g_N := s28 _ _ g_N
          have g_rope := s28 _ _ g_rope
          have g_world := s28 _ _ g_world
          have g_deep := s28 _ _ g_deep
          have g_way := s28 _ _ g_way
          have g_some := s28 _ _ g_some
          have g_D := s28 _ _ g_D
          have hps := hps.sub s28
          have g_T := s28 _ _ g_T
          have g_Cl := s28 _ _ g_Cl
          have hws := hws.sub s28
          have g_F := s28 _ _ g_F
          have hO := hO.sub s28
          wtm_at "gc"
          refine m_get (f := 549) D S I (by kernel_rfl) (by kernel_rfl) ?_
          refine cw_K D (by kernel_rfl) ?_ (by rfl) (by rfl)
          wtm_at "gc"
          refine ⟨S.kin D, ?_⟩
          refine wp_call (or_of_ok D hr3 I H (S.sit (xs := [(aR, oR2), (aO, oO3)]) (cs := bcs c o28 ++ cs)) (by first | decide | with_reducible assumption | omega) (by first | decide | with_reducible assumption | omega) hs g_T hzs (parts_at hpr26) hz2 hz100 ?_)
          intro i29 t29 o29 B29 γ29 h29 Mk29 H29 P29 C29
          have S := S.after (xs := [(aR, oR2), (aO, oO3)]) (cs := bcs c o28 ++ cs) P29 (cs' := bcs c o29 ++ cs) rfl C29
          simp only [List.cons_append, List.nil_append] at S
          have s29 := P29.sub

          obtain ⟨e1, e2⟩ := Made.again H29 Mk26 Mk29
          subst e1 e2
          have H := H29
          have I := I.sub s29
          have g_C := s29 _ _ g_C
          have g_W := s29 _ _ g_W
          have g_N := s29 _ _ g_N
          have g_rope := s29 _ _ g_rope
          have g_world := s29 _ _ g_world
          have g_deep := s29 _ _ g_deep
          have g_way := s29 _ _ g_way
          have g_some := s29 _ _ g_some
          have g_D := s29 _ _ g_D
          have hps := hps.sub s29
          have g_T := s29 _ _ g_T
          have g_Cl := s29 _ _ g_Cl
          have hws := hws.sub s29
          have g_F := s29 _ _ g_F
          have hO := hO.sub s29
          refine i_dicti (S.led_get (by wtm_at "mem")) hO.dict (by rw [va_stored, if_pos rfl]) ?_ sub_call
          wtm_at "gc"
          refine e_LC ?_ (by intro _; rfl) (cl := []) (by rw [hcel]; kernel_rfl) (by kernel_rfl)
          wtm_at "gc"
          refine it_list S (S.get g_Cl) ?_
          intro I30 oI30 h30 ok30 S30
          refine lcg (cl := []) (fun j zs _ led => Nats zs ((col f').take j) ∧ led = (aR, oR2) :: (aO, oO3) :: (bcs c o29 ++ cs)) E (It.list hr'.h g_Cl) ok30 S30 ⟨.nil, rfl⟩ (by first | decide | with_reducible assumption | omega) (by rw [hcel]; kernel_rfl) (by kernel_rfl) ?_ ?_
          · rintro j zs v γ31 led31 h31 C mC I31 oI31 oL31 D31 k31 en31 hj hv hyl31 s31 ⟨hzt, rfl⟩ E31 hce31 S31
            have hj16 : j < 16 := by omega
            obtain ⟨a, us, e, hwj, ha, hu⟩ := hws.2 j hj16
            rw [hwj] at hv
            cases hv
            wtm_at "gc"
            refine n_bi (v := .builtin "max") (by assumption) (by assumption) (by assumption) (ns_max _) (by kernel_rfl) (sne (by decide)) ?_ (by kernel_rfl) (by kernel_rfl)
            refine cw_B (by rfl) ?_ (by rfl) (by rfl)
            wtm_at "gc"
            refine c_max hr'.h S31 (S31.get (s31 _ _ ha)) hu.ints (by rw [List.length_map, List.length_map]; omega) ?_
            intro Mx tx h32 hx1 hx2 S32
            rw [best hx1 hx2 (hfb j).1 (hfb j).2]
            exact ⟨γ31, _, _, Sub.refl _, ⟨by rw [col_snoc hj16]; exact hzt.append (.cons .nil), rfl⟩, S32⟩
          · rintro D33 zs k33 γ33 γ34 led33 h33 hyl33 s33 s34 ⟨hzt, rfl⟩ hD33 S
            rw [List.take_of_length_le (by simp; omega)] at hzt
            wtm_at "gc"
            refine ⟨small (by simp), ?_⟩
            obtain ⟨γ35, r35, hsz, s35, hr35, S⟩ := S.madeX (tu [.int (i29 : Nat) t28, .ref D24, .ref D33] 0) rfl
            rw [hsz]
            have s3335 := (s33.trans s34).trans s35
            refine kr10 _ _ ?_
            refine kr8 _ _ ?_
            exact fin _ ⟨_, (ps.map (·.F)).flatten, f'⟩ oR2 k2 oO3 _ o29 _ γ35 _ ⟨r35, t28, D24, D33, 0, _, k24, _, k33, rfl, hr35, s3335 _ _ g_F, hsn, s35 _ _ hD33, hzt⟩ hf' hRp2 hk2 (hO.sub s3335) (H.sub s3335) (hpre.trans Mk26.pre) (by first | decide | with_reducible assumption | omega) (post _ _ _ _ S) (fun p hp => (S.nw p hp).1)
        · rw [if_neg (by simpa using hor)]
          wtm_at "gc"
          refine kn8 _ ?_; clear kn8 kr8 K8
          have hw56 : w = 5 ∨ w = 6 := by omega
          refine x_seq ?_; intro K9 kn9 kr9
          have key9 : ∀ (p : Pt) (tp : Tok) (DD : Addr) (zz : List Value) (kz : Nat) (oR3 : Obj) (k3 : Int) (o3 : BO) (B3 : List TKey) (γ3 : Pm) (m9 : Mp) (h9 : Heap), Sub γ19 γ3 → RopeO G oR3 aC k3 → 0 ≤ k3 → BR G γ3 o3 B3 → B2 <+: B3 → B3.length ≤ B2.length + 1 → OpenedR G γ3 oO2 B3 kvs2 → PtR B3 (d + 1) p →
              γ3 DD = some (lo zz kz) → Nats zz (col p.f) → m9 (Str.ofString "term") = some (.int (p.i : Nat) tp) → m9 (Str.ofString "told") = some (.ref DD) → St G an γ3 L m9 ((aR, oR3) :: (aO, oO2) :: (bcs c o3 ++ cs)) h9 → K9 .next h9 := by
            clear S
            intro p tp DD zz kz oR3 k3 o3 B3 γ3 m9 h9 s3 hRp3 hk3 H3 hpre3 hlen3 hO3 hp hDD hzz m_term m_told S
            have hO := hO3
            have H := H3
            have I := I.sub s3
            have g_C := s3 _ _ g_C
            have g_W := s3 _ _ g_W
            have g_N := s3 _ _ g_N
            have g_rope := s3 _ _ g_rope
            have g_world := s3 _ _ g_world
            have g_deep := s3 _ _ g_deep
            have g_way := s3 _ _ g_way
            have g_some := s3 _ _ g_some
            refine kn9 _ ?_; clear kn9 kr9 K9
            refine x_seq ?_; intro K11 kn11 kr11
            wtm_at "gc"
            refine dm_get (S.led_get (by wtm_at "mem")) (exact_of hO.dict) ?_
            refine cw_B (by rfl) ?_ (by rfl) (by rfl)
            wtm_at "gc"
            refine ⟨small (by simp), ?_⟩
            obtain ⟨γ12, r12, hsz, s12, hr12, S⟩ := S.madeX (lo [.int (p.i : Nat) tp] 0) rfl
            rw [hsz]
            wtm_at "gc"
            have hO := hO.sub s12
            have hDD := s12 _ _ hDD
            refine c_iget (S.led_get (by wtm_at "mem")) hO.dict hsO ?_
            obtain ⟨a, vs, e, e1, e2, e3⟩ | ⟨e1, e2⟩ := hO.got hp
            · rw [e1]
              simp only [Option.getD_some]
              wtm_at "gc"
              refine ⟨small (by simp), ?_⟩
              obtain ⟨γ13, r13, hsz, s13, hr13, S⟩ := S.madeX (tu [.int (p.i : Nat) tp, .ref a, .ref DD] 0) rfl
              rw [hsz]
              refine kr11 _ _ ?_
              exact fin _ p oR3 k3 oO2 kvs2 o3 B3 γ13 _ ⟨r13, tp, a, DD, 0, vs, e, zz, kz, rfl, hr13, s13 _ _ e2, e3, s13 _ _ hDD, hzz⟩ hp hRp3 hk3 (hO.sub s13) (H.sub (s12.trans s13)) (hpre.trans hpre3) (by first | decide | with_reducible assumption | omega) (post _ _ _ _ S) (fun p hp => (S.nw p hp).1)
            · rw [e1]
              simp only [Option.getD_none]
              wtm_at "gc"
              refine ⟨small (by simp), ?_⟩
              obtain ⟨γ13, r13, hsz, s13, hr13, S⟩ := S.madeX (tu [.int (p.i : Nat) tp, .ref r12, .ref DD] 0) rfl
              rw [hsz]
              refine kr11 _ _ ?_
              exact fin _ p oR3 k3 oO2 kvs2 o3 B3 γ13 _ ⟨r13, tp, r12, DD, 0, _, 0, zz, kz, rfl, hr13, s13 _ _ hr12, by rw [e2]; exact .cons .nil, s13 _ _ hDD, hzz⟩ hp hRp3 hk3 (hO.sub s13) (H.sub (s12.trans s13)) (hpre.trans hpre3) (by first | decide | with_reducible assumption | omega) (post _ _ _ _ S) (fun p hp => (S.nw p hp).1)
          wtm_at "gc"
          obtain rfl | rfl := hw56
          · rw [if_pos (by simp)]
            obtain ⟨p, rfl⟩ : ∃ p, ps = [p] := List.length_eq_one_iff.mp (by first | decide | with_reducible assumption | omega)
            have hp1 := hpr p (by simp)
            refine x_seq ?_; intro K12 kn12 kr12
            refine x_Swap (names := [Str.ofString "term", Str.ofString "told"]) (swapped_of E fun e => by kernel_rfl) (by rfl) ?_
            wtm_at "gc"
            refine m_get (f := 535) D S I (by kernel_rfl) (by kernel_rfl) ?_
            refine cw_K D (by kernel_rfl) ?_ (by rfl) (by rfl)
            wtm_at "gc"
            obtain ⟨t0, us, rfl, hus⟩ := hzs.uncons
            refine i_list (S.get g_T) (by first | decide | with_reducible assumption | omega) (by first | decide | with_reducible assumption | omega) (v := .int (p.i : Nat) t0) (by simp) ?_ sub_const
            wtm_at "gc"
            refine ⟨S.kin D, ?_⟩
            obtain ⟨kp, hkp⟩ := hp1.at_
            refine wp_call (not_of_ok D hr3 I H (S.sit (xs := [(aR, oR2), (aO, oO2)]) (cs := bcs c o2 ++ cs)) (by first | decide | with_reducible assumption | omega) (by first | decide | with_reducible assumption | omega) hs hkp (fun ho => by obtain ⟨a, _, _, _, e, _⟩ := hp1.nots hkp ho; exact ⟨a, e⟩) (Rep.ge3 hB2 hp1) ?_)
            intro i13 t13 o13 B13 γ13 h13 N13 H13 P13 C13
            have S := S.after (xs := [(aR, oR2), (aO, oO2)]) (cs := bcs c o2 ++ cs) P13 (cs' := bcs c o13 ++ cs) rfl C13
            simp only [List.cons_append, List.nil_append] at S
            have s13 := P13.sub
            have I := I.sub s13
            have g_C := s13 _ _ g_C
            have g_W := s13 _ _ g_W
            have g_N := s13 _ _ g_N
            have g_rope := s13 _ _ g_rope
            have g_world := s13 _ _ g_world
            have g_deep := s13 _ _ g_deep
            have g_way := s13 _ _ g_way
            have g_some := s13 _ _ g_some
            have g_T := s13 _ _ g_T
            have g_Cl := s13 _ _ g_Cl
            have hws := hws.sub s13
            obtain ⟨F', hrep⟩ := N13.rep hp1 hkp
            wtm_at "gc"
            refine e_LC ?_ (by intro _; rfl) (cl := []) (by rw [hcel]; kernel_rfl) (by kernel_rfl)
            wtm_at "gc"
            refine it_list S (S.get g_Cl) ?_
            intro I40 oI40 h40 ok40 S40
            refine lcg (cl := []) (fun j zs _ led => Nats zs ((col (fun r => 1 - p.f r)).take j) ∧ led = (aR, oR2) :: (aO, oO2) :: (bcs c o13 ++ cs)) E (It.list hr'.h g_Cl) ok40 S40 ⟨.nil, rfl⟩ (by first | decide | with_reducible assumption | omega) (by rw [hcel]; kernel_rfl) (by kernel_rfl) ?_ ?_
            · rintro j zs v γ41 led41 h41 C mC I41 oI41 oL41 D41 k41 en41 hj hv hyl41 s41 ⟨hzt, rfl⟩ E41 hce41 S41
              have hj16 : j < 16 := by omega
              obtain ⟨a, us, e, hwj, ha, hu⟩ := hws.2 j hj16
              rw [hwj] at hv
              cases hv
              obtain ⟨t1, us, rfl, hus⟩ := Nats.uncons (p := p.f j) (ns := []) hu
              wtm_at "gc"
              refine i_list (S41.get (s41 _ _ ha)) (by first | decide | with_reducible assumption | omega) (by first | decide | with_reducible assumption | omega) (v := .int (p.f j : Nat) t1) (by simp) ?_ sub_const
              wtm_at "gc"
              rw [show (1 : Int) - (p.f j : Nat) = ((1 - p.f j : Nat) : Int) by have := hp1.le1 j; omega]
              exact ⟨γ41, _, _, Sub.refl _, ⟨by rw [col_snoc hj16]; exact hzt.append (.cons .nil), rfl⟩, S41⟩
            · rintro D43 zs k43 γ43 γ44 led43 h43 hyl43 s43 s44 ⟨hzt, rfl⟩ hD43 S
              rw [List.take_of_length_le (by simp; omega)] at hzt
              wtm_at "gc"
              refine ⟨small (by simp), ?_⟩
              obtain ⟨γ45, r45, hsz, s45, hr45, S⟩ := S.madeX (tu [.int (i13 : Nat) t13, .ref D43] 0) rfl
              rw [hsz]
              have s4345 := (s43.trans s44).trans s45
              refine u_tup hr'.h S (S.get hr45) rfl ?_
              intro h46 S
              refine io_cons (bn ?_)
              refine n_store (by assumption) E ?_ (by kernel_rfl); intro _ S
              refine io_cons (bn ?_)
              refine n_store (by assumption) E ?_ (by kernel_rfl); intro _ S
              refine io_nil ?_
              refine kn12 _ ?_; clear kn12 kr12 K12
              wtm_at "gc"
              exact key9 ⟨i13, F', fun r => 1 - p.f r⟩ t13 D43 zs k43 oR2 k2 o13 B13 γ45 _ _ (s13.trans s4345) hRp2 hk2 (H13.sub s4345) N13.pre N13.len ((hO.sub (s13.trans s4345)).mono N13.pre N13.news) hrep (s45 _ _ hD43) hzt (by wtm_at "lk") (by wtm_at "lk") S

          · rw [if_neg (by simp)]
            obtain ⟨p, p', rfl⟩ : ∃ p p', ps = [p, p'] := by
              match ps, hlps with
              | [a, b], _ => exact ⟨a, b, rfl⟩
              | [], q => simp at q; omega
              | [a], q => simp at q; omega
              | a :: b :: c :: r, q => simp at q; omega
            have hp1 := hpr p (by simp)
            have hp2 := hpr p' (by simp)
            refine x_seq ?_; intro K14 kn14 kr14
            wtm_at "gc"
            refine n_glob (v := .ref 631) (by assumption) (by assumption) (by assumption) (ns__law_next _) ?_ (by kernel_rfl) (by kernel_rfl)
            refine cw_K D (by kernel_rfl) ?_ (by rfl) (by rfl)
            wtm_at "gc"
            refine ⟨S.kin D, ?_⟩
            refine wp_call (next_ok D hr1 (S.sit (xs := []) (cs := (aR, oR2) :: (aO, oO2) :: (bcs c o2 ++ cs))) hRp2 g_C hIC hlC hk2 (by first | decide | with_reducible assumption | omega) ?_)
            intro z tz oR3 γ15 h15 hz0 hz2 hRp3 P15 C15
            have S := S.after (xs := []) (cs := (aR, oR2) :: (aO, oO2) :: (bcs c o2 ++ cs)) P15 (cs' := (aR, oR3) :: (aO, oO2) :: (bcs c o2 ++ cs)) rfl C15
            simp only [List.nil_append] at S
            have s15 := P15.sub
            have I := I.sub s15
            have H := H.sub s15
            have hO := hO.sub s15
            have g_C := s15 _ _ g_C
            have g_W := s15 _ _ g_W
            have g_N := s15 _ _ g_N
            have g_rope := s15 _ _ g_rope
            have g_world := s15 _ _ g_world
            have g_deep := s15 _ _ g_deep
            have g_way := s15 _ _ g_way
            have g_some := s15 _ _ g_some
            have g_T := s15 _ _ g_T
            have g_Cl := s15 _ _ g_Cl
            have hws := hws.sub s15
            wtm_at "gc"
            by_cases hz : z = 0
            · rw [if_pos (by rw [decide_eq_true_eq]; exact hz)]
              refine x_seq ?_; intro K16 kn16 kr16
              refine x_Swap (names := [Str.ofString "term", Str.ofString "told"]) (swapped_of E fun e => by kernel_rfl) (by rfl) ?_
              wtm_at "gc"
              refine m_get (f := 542) D S I (by kernel_rfl) (by kernel_rfl) ?_
              refine cw_K D (by kernel_rfl) ?_ (by rfl) (by rfl)
              wtm_at "gc"
              refine ⟨S.kin D, ?_⟩
              refine wp_call (and_of_ok D hr3 I H (S.sit (xs := [(aR, oR3), (aO, oO2)]) (cs := bcs c o2 ++ cs)) (by first | decide | with_reducible assumption | omega) (by first | decide | with_reducible assumption | omega) hs g_T hzs (parts_at hpr) (by rw [hzs.len, List.length_map]; simp) (by rw [hzs.len, List.length_map]; simp) ?_)
              intro i13 t13 o13 B13 γ13 h13 N13 H13 P13 C13
              have S := S.after (xs := [(aR, oR3), (aO, oO2)]) (cs := bcs c o2 ++ cs) P13 (cs' := bcs c o13 ++ cs) rfl C13
              simp only [List.cons_append, List.nil_append] at S
              have s13 := P13.sub
              have I := I.sub s13
              have g_C := s13 _ _ g_C
              have g_W := s13 _ _ g_W
              have g_N := s13 _ _ g_N
              have g_rope := s13 _ _ g_rope
              have g_world := s13 _ _ g_world
              have g_deep := s13 _ _ g_deep
              have g_way := s13 _ _ g_way
              have g_some := s13 _ _ g_some
              have g_T := s13 _ _ g_T
              have g_Cl := s13 _ _ g_Cl
              have hws := hws.sub s13
              have hrep := Rep.and2 (hp1.mono N13.pre) (hp2.mono N13.pre) N13.2.1
              wtm_at "gc"
              refine e_LC ?_ (by intro _; rfl) (cl := []) (by rw [hcel]; kernel_rfl) (by kernel_rfl)
              wtm_at "gc"
              refine it_list S (S.get g_Cl) ?_
              intro I40 oI40 h40 ok40 S40
              refine lcg (cl := []) (fun j zs _ led => Nats zs ((col (fun r => min (p.f r) (p'.f r))).take j) ∧ led = (aR, oR3) :: (aO, oO2) :: (bcs c o13 ++ cs)) E (It.list hr'.h g_Cl) ok40 S40 ⟨.nil, rfl⟩ (by first | decide | with_reducible assumption | omega) (by rw [hcel]; kernel_rfl) (by kernel_rfl) ?_ ?_
              · rintro j zs v γ41 led41 h41 C mC I41 oI41 oL41 D41 k41 en41 hj hv hyl41 s41 ⟨hzt, rfl⟩ E41 hce41 S41
                have hj16 : j < 16 := by omega
                obtain ⟨a, us, e, hwj, ha, hu⟩ := hws.2 j hj16
                rw [hwj] at hv
                cases hv
                wtm_at "gc"
                refine n_bi (v := .builtin "min") (by assumption) (by assumption) (by assumption) (ns_min _) (by kernel_rfl) (sne (by decide)) ?_ (by kernel_rfl) (by kernel_rfl)
                refine cw_B (by rfl) ?_ (by rfl) (by rfl)
                wtm_at "gc"
                refine c_min hr'.h S41 (S41.get (s41 _ _ ha)) hu.ints (by simp) ?_
                intro Mx tx h42 hx1 hx2 S42
                rw [least (m := min (p.f j) (p'.f j)) hx1 hx2 (by simp; omega) (by simp; omega)]
                have S41 := S42
                exact ⟨γ41, _, _, Sub.refl _, ⟨by rw [col_snoc hj16]; exact hzt.append (.cons .nil), rfl⟩, S41⟩
              · rintro D43 zs k43 γ43 γ44 led43 h43 hyl43 s43 s44 ⟨hzt, rfl⟩ hD43 S
                rw [List.take_of_length_le (by simp; omega)] at hzt
                wtm_at "gc"
                refine ⟨small (by simp), ?_⟩
                obtain ⟨γ45, r45, hsz, s45, hr45, S⟩ := S.madeX (tu [.int (i13 : Nat) t13, .ref D43] 0) rfl
                rw [hsz]
                have s4345 := (s43.trans s44).trans s45
                refine u_tup hr'.h S (S.get hr45) rfl ?_
                intro h46 S
                refine io_cons (bn ?_)
                refine n_store (by assumption) E ?_ (by kernel_rfl); intro _ S
                refine io_cons (bn ?_)
                refine n_store (by assumption) E ?_ (by kernel_rfl); intro _ S
                refine io_nil ?_
                refine kn16 _ ?_; clear kn16 kr16 K16
                wtm_at "gc"
                refine kn14 _ ?_; clear kn14 kr14 K14
                wtm_at "gc"
                exact key9 ⟨i13, _, fun r => min (p.f r) (p'.f r)⟩ t13 D43 zs k43 oR3 (k2 + 1) o13 B13 γ45 _ _ ((s15.trans s13).trans s4345) hRp3 (by first | decide | with_reducible assumption | omega) (H13.sub s4345) N13.pre N13.len ((hO.sub (s13.trans s4345)).mono N13.pre (N13.news (sne (by decide)))) hrep (s45 _ _ hD43) hzt (by wtm_at "lk") (by wtm_at "lk") S

            · rw [if_neg (by rw [decide_eq_true_eq]; exact hz)]
              refine x_seq ?_; intro K16 kn16 kr16
              refine x_Swap (names := [Str.ofString "term", Str.ofString "told"]) (swapped_of E fun e => by kernel_rfl) (by rfl) ?_
              wtm_at "gc"
              refine m_get (f := 563) D S I (by kernel_rfl) (by kernel_rfl) ?_
              refine cw_K D (by kernel_rfl) ?_ (by rfl) (by rfl)
              wtm_at "gc"
              obtain ⟨t0, us, rfl, hus⟩ := hzs.uncons
              obtain ⟨t1, us', rfl, hus'⟩ := hus.uncons
              refine i_list (S.get g_T) (by first | decide | with_reducible assumption | omega) (by first | decide | with_reducible assumption | omega) (v := .int (p.i : Nat) t0) (by simp) ?_ sub_const
              wtm_at "gc"
              refine i_list (S.get g_T) (by first | decide | with_reducible assumption | omega) (by first | decide | with_reducible assumption | omega) (v := .int (p'.i : Nat) t1) (by simp) ?_ sub_const
              wtm_at "gc"
              refine ⟨S.kin D, ?_⟩
              refine wp_call (implies_of_ok D hr3 I H (S.sit (xs := [(aR, oR3), (aO, oO2)]) (cs := bcs c o2 ++ cs)) (by first | decide | with_reducible assumption | omega) (by first | decide | with_reducible assumption | omega) hs hp1.at_ hp2.at_ ?_)
              intro i13 t13 o13 B13 γ13 h13 N13 H13 P13 C13
              have S := S.after (xs := [(aR, oR3), (aO, oO2)]) (cs := bcs c o2 ++ cs) P13 (cs' := bcs c o13 ++ cs) rfl C13
              simp only [List.cons_append, List.nil_append] at S
              have s13 := P13.sub
              have I := I.sub s13
              have g_C := s13 _ _ g_C
              have g_W := s13 _ _ g_W
              have g_N := s13 _ _ g_N
              have g_rope := s13 _ _ g_rope
              have g_world := s13 _ _ g_world
              have g_deep := s13 _ _ g_deep
              have g_way := s13 _ _ g_way
              have g_some := s13 _ _ g_some
              have g_T := s13 _ _ g_T
              have g_Cl := s13 _ _ g_Cl
              have hws := hws.sub s13
              have hrep := Rep.imp (hp1.mono N13.pre) (hp2.mono N13.pre) N13.2.1
              wtm_at "gc"
              refine e_LC ?_ (by intro _; rfl) (cl := []) (by rw [hcel]; kernel_rfl) (by kernel_rfl)
              wtm_at "gc"
              refine it_list S (S.get g_Cl) ?_
              intro I40 oI40 h40 ok40 S40
              refine lcg (cl := []) (fun j zs _ led => Nats zs ((col (fun r => if p.f r ≤ p'.f r then 1 else 0)).take j) ∧ led = (aR, oR3) :: (aO, oO2) :: (bcs c o13 ++ cs)) E (It.list hr'.h g_Cl) ok40 S40 ⟨.nil, rfl⟩ (by first | decide | with_reducible assumption | omega) (by rw [hcel]; kernel_rfl) (by kernel_rfl) ?_ ?_
              · rintro j zs v γ41 led41 h41 C mC I41 oI41 oL41 D41 k41 en41 hj hv hyl41 s41 ⟨hzt, rfl⟩ E41 hce41 S41
                have hj16 : j < 16 := by omega
                obtain ⟨a, us, e, hwj, ha, hu⟩ := hws.2 j hj16
                rw [hwj] at hv
                cases hv
                obtain ⟨ta, us, rfl, hus⟩ := Nats.uncons (p := p.f j) (ns := [p'.f j]) hu
                obtain ⟨tb, us', rfl, hus'⟩ := hus.uncons
                wtm_at "gc"
                refine n_bi (v := .type "int") (by assumption) (by assumption) (by assumption) (ns_int _) (by kernel_rfl) (sne (by decide)) ?_ (by kernel_rfl) (by kernel_rfl)
                refine cw_B (by rfl) ?_ (by rfl) (by rfl)
                wtm_at "gc"
                refine i_list (S41.get (s41 _ _ ha)) (by first | decide | with_reducible assumption | omega) (by first | decide | with_reducible assumption | omega) (v := .int (p.f j : Nat) ta) (by simp) ?_ sub_const
                wtm_at "gc"
                refine i_list (S41.get (s41 _ _ ha)) (by first | decide | with_reducible assumption | omega) (by first | decide | with_reducible assumption | omega) (v := .int (p'.f j : Nat) tb) (by simp) ?_ sub_const
                wtm_at "gc"
                refine c_intb ?_
                intro tz2
                have e9 : (if decide ((p.f j : Int) ≤ (p'.f j : Nat)) = true then (1 : Int) else 0) = (((if p.f j ≤ p'.f j then 1 else 0 : Nat)) : Int) := by
                  by_cases h : p.f j ≤ p'.f j
                  · rw [if_pos h, if_pos (by rw [decide_eq_true_eq]; omega)]; rfl
                  · rw [if_neg h, if_neg (by rw [decide_eq_true_eq]; omega)]; rfl
                rw [e9]
                exact ⟨γ41, _, _, Sub.refl _, ⟨by rw [col_snoc hj16]; exact hzt.append (.cons .nil), rfl⟩, S41⟩
              · rintro D43 zs k43 γ43 γ44 led43 h43 hyl43 s43 s44 ⟨hzt, rfl⟩ hD43 S
                rw [List.take_of_length_le (by simp; omega)] at hzt
                wtm_at "gc"
                refine ⟨small (by simp), ?_⟩
                obtain ⟨γ45, r45, hsz, s45, hr45, S⟩ := S.madeX (tu [.int (i13 : Nat) t13, .ref D43] 0) rfl
                rw [hsz]
                have s4345 := (s43.trans s44).trans s45
                refine u_tup hr'.h S (S.get hr45) rfl ?_
                intro h46 S
                refine io_cons (bn ?_)
                refine n_store (by assumption) E ?_ (by kernel_rfl); intro _ S
                refine io_cons (bn ?_)
                refine n_store (by assumption) E ?_ (by kernel_rfl); intro _ S
                refine io_nil ?_
                refine kn16 _ ?_; clear kn16 kr16 K16
                wtm_at "gc"
                refine kn14 _ ?_; clear kn14 kr14 K14
                wtm_at "gc"
                exact key9 ⟨i13, _, fun r => if p.f r ≤ p'.f r then 1 else 0⟩ t13 D43 zs k43 oR3 (k2 + 1) o13 B13 γ45 _ _ ((s15.trans s13).trans s4345) hRp3 (by first | decide | with_reducible assumption | omega) (H13.sub s4345) N13.pre N13.len ((hO.sub (s13.trans s4345)).mono N13.pre (N13.news (sne (by decide)))) hrep (s45 _ _ hD43) hzt (by wtm_at "lk") (by wtm_at "lk") S

    wtm_at "gc"
    rename_i ta tb
    refine ⟨small (by simp), ?_⟩
    obtain ⟨γ6, r6, hsz, s6, hr6, S⟩ := S.madeX (tu [.int 4 ta, .int 6 tb] 0) rfl
    rw [hsz]
    have g_way := s6 _ _ g_way
    refine inI_T (S.get hr6) (.cons 4 ta (.cons 6 tb .nil)) ?_
    wtm_at "gc"
    by_cases h46 : w = 4 ∨ w = 6
    · rw [if_pos (by rw [decide_eq_true_eq]; simp; omega)]
      wtm_at "gc"
      refine n_store S E ?_ (by kernel_rfl); intro h7 S
      exact key5 2 _ γ6 h7 s6 (.inl ⟨rfl, h46⟩) S
    · rw [if_neg (by rw [decide_eq_true_eq]; simp; omega)]
      wtm_at "gc"
      by_cases hw5 : w = 5
      · rw [if_pos (by rw [decide_eq_true_eq]; omega)]
        wtm_at "gc"
        refine n_store S E ?_ (by kernel_rfl); intro h7 S
        exact key5 1 _ γ6 h7 s6 (.inr (.inl ⟨rfl, hw5⟩)) S
      · rw [if_neg (by rw [decide_eq_true_eq]; omega)]
        wtm_at "gc"
        refine n_store S E ?_ (by kernel_rfl); intro h7 S
        exact key5 3 _ γ6 h7 s6 (.inr (.inr ⟨rfl, by omega⟩)) S
theorem Flat.cast {B : List TKey} {W F W2 F2 : List Nat} {n n2 : Nat} (x : Flat B W F n) (e1 : W = W2 ∧ F = F2) (e2 : n = n2) : Flat B W2 F2 n2 := by
  obtain ⟨rfl, rfl⟩ := e1
  subst e2; exact x

theorem chain_ok {G : Gl} {A : Around} {h : Heap} {γ : Pm} {n : Nat} (D : Gd G) (hr : Room A (n + 5)) {c : BC} {q1 q2 : Tok} {cs : Led} {aR aO aC aW aN : Addr} {oR oO oW : Obj} {vC nvs : List Value} {eC eN : Nat} {ns : List Int} {o : BO} {B : List TKey} {k : Int} {R : Value → Heap → Prop}
    (hs : (c.a5 == sysModules) = false) (hIC : IntsAre vC ns) (hlC : vC.length ≤ 63)
    (hW : oW.IsDictOf (Skd G) [(Str.ofString "bank", .ref c.b), (Str.ofString "names", .ref aN), (Str.ofString "opened", .ref aO)]) (hNN : Nats nvs [3, 4, 5, 6])
    (I : Ins G γ c.b 622 (bkv c (bful q1 q2))) (H : BR G γ o B) (hB0 : B0 <+: B) (hB : B.length ≤ 900000) (hRp : RopeO G oR aC k) (hk0 : 0 ≤ k) (g_C : γ aC = some (lo vC eC)) (g_W : γ aW = some oW) (g_N : γ aN = some (lo nvs eN)) (T : Sit G γ ((aR, oR) :: (aO, oO) :: (bcs c o ++ cs)) h)
    (fin : ∀ r t aP e0 e ps Fs i N oR' o' B' γ' h', γ' r = some (tu [.int (i : Nat) t, .ref aP] e0) → γ' aP = some (lo ps e) → Nats ps Fs → Fs.length ≤ 200 → Lf B' Fs → Flat B' [i] Fs N → N ≤ 1000 → BR G γ' o' B' → B <+: B' → B'.length ≤ B.length + 100 →
      Post γ h (((aR, oR) :: (aO, oO) :: (bcs c o ++ cs)).map (·.1)) γ' h' → (∀ p ∈ (aR, oR') :: (aO, oO) :: (bcs c o' ++ cs), h'.get? p.1 = some p.2) → R (.ref r) h') :
    CD G A (.call (.ref 643) ⟨[.ref aR, .ref aW], []⟩) (Ret R) h := by
  refine call_def D T hr (st := topAt 28) (nm := Str.ofString "_law_chain") (ql := Str.ofString "_law_chain") (pm := (Value.str (Str.ofString "law_qz0017_01") 1020)) (cd := .ref 642) (binds := [(Str.ofString "rope", .ref aR), (Str.ofString "world", .ref aW)]) (by kernel_rfl) (by kernel_rfl) (by kernel_rfl) (by decide +kernel) (locs (by kernel_rfl)) (by kernel_rfl) (by kernel_rfl) (by kernel_rfl) ?_
  intro an L h₁ en A' E hr' post S
  generalize hb : fBod (topAt 28) = b
  conv at hb => lhs; whnf
  subst hb
  simp only [puts, List.foldl] at S
  have hB7 : 7 ≤ B.length := hB0.length_le
  refine x_seq ?_; intro K1 kn1 kr1
  refine x_Swap (names := [Str.ofString "way", Str.ofString "names"]) (swapped_of E fun e => by kernel_rfl) (by rfl) ?_
  wtm_at "gos"
  refine n_glob (v := .ref 631) (by assumption) (by assumption) (by assumption) (ns__law_next _) ?_ (by kernel_rfl) (by kernel_rfl)
  refine cw_K D (by kernel_rfl) ?_ (by rfl) (by rfl)
  wtm_at "gos"
  refine ⟨S.kin D, ?_⟩
  refine wp_call (next_ok D (hr'.less (by first | decide | omega) : Room A' (0 + 1)) (S.sit (xs := []) (cs := (aR, oR) :: (aO, oO) :: (bcs c o ++ cs))) hRp g_C hIC hlC hk0 (by first | decide | omega) ?_)
  intro w t1 oR1 γ2 h2 hw0 hw3 hRp P2 C2
  have S := S.after (xs := []) (cs := (aR, oR) :: (aO, oO) :: (bcs c o ++ cs)) P2 (cs' := (aR, oR1) :: (aO, oO) :: (bcs c o ++ cs)) rfl C2
  simp only [List.nil_append] at S
  have s2 := P2.sub
  have I := I.sub s2
  have H := H.sub s2
  have g_C := s2 _ _ g_C
  have g_W := s2 _ _ g_W
  have g_N := s2 _ _ g_N
  wtm_at "gos"
  refine ⟨small (by simp), ?_⟩
  obtain ⟨γ3, r3, hsz, s3, hr3, S⟩ := S.madeX (tu [.int w t1, .ref aN] 0) rfl
  rw [hsz]
  have I := I.sub s3
  have H := H.sub s3
  have g_C := s3 _ _ g_C
  have g_W := s3 _ _ g_W
  have g_N := s3 _ _ g_N
  refine u_tup hr'.h S (S.get hr3) rfl ?_
  intro h4 S
  refine io_cons (bn ?_)
  refine n_store (by assumption) E ?_ (by kernel_rfl); intro _ S
  refine io_cons (bn ?_)
  refine n_store (by assumption) E ?_ (by kernel_rfl); intro _ S
  refine io_nil ?_
  refine kn1 _ ?_; clear kn1 kr1 K1
  refine x_seq ?_; intro K2 kn2 kr2
  refine x_Swap (names := [Str.ofString "found", Str.ofString "parts"]) (swapped_of E fun e => by kernel_rfl) (by rfl) ?_
  obtain ⟨tn0, hn0⟩ := hNN.got (i := 0) (n := 3) rfl
  wtm_at "gos"
  refine i_list (S.get g_N) (by first | decide | omega) (by first | decide | omega) (v := .int (3 : Nat) tn0) (by simpa using hn0) ?_ sub_const
  wtm_at "gos"
  refine i_list (S.get g_N) (by first | decide | omega) (by first | decide | omega) (v := .int (3 : Nat) tn0) (by simpa using hn0) ?_ sub_const
  wtm_at "gos"
  refine ⟨small (by simp), ?_⟩
  obtain ⟨γ4, aP, hsz, s4, g_P, S⟩ := S.madeX (lo [.int (3 : Nat) tn0] 0) rfl
  rw [hsz]
  wtm_at "gos"
  refine ⟨small (by simp), ?_⟩
  obtain ⟨γ5, r5, hsz, s5, hr5, S⟩ := S.madeX (tu [.int (3 : Nat) tn0, .ref aP] 0) rfl
  rw [hsz]
  have g_P := s5 _ _ g_P
  have s45 := s4.trans s5
  have I := I.sub s45
  have H := H.sub s45
  have g_C := s45 _ _ g_C
  have g_W := s45 _ _ g_W
  have g_N := s45 _ _ g_N
  refine u_tup hr'.h S (S.get hr5) rfl ?_
  intro h6 S
  refine io_cons (bn ?_)
  refine n_store (by assumption) E ?_ (by kernel_rfl); intro _ S
  refine io_cons (bn ?_)
  refine n_store (by assumption) E ?_ (by kernel_rfl); intro _ S
  refine io_nil ?_
  refine kn2 _ ?_; clear kn2 kr2 K2
  refine x_seq ?_; intro K3 kn3 kr3
  refine x_For ?_ (by intro _; rfl)
  wtm_at "gos"
  refine n_bi (v := .type "range") (by assumption) (by assumption) (by assumption) (ns_range _) (by kernel_rfl) (sne (by decide)) ?_ (by kernel_rfl) (by kernel_rfl)
  refine cw_B (by rfl) ?_ (by rfl) (by rfl)
  wtm_at "gos"
  refine n_glob (v := .ref 631) (by assumption) (by assumption) (by assumption) (ns__law_next _) ?_ (by kernel_rfl) (by kernel_rfl)
  refine cw_K D (by kernel_rfl) ?_ (by rfl) (by rfl)
  wtm_at "gos"
  refine ⟨S.kin D, ?_⟩
  refine wp_call (next_ok D (hr'.less (by first | decide | omega) : Room A' (0 + 1)) (S.sit (xs := []) (cs := (aR, oR1) :: (aO, oO) :: (bcs c o ++ cs))) hRp g_C hIC hlC (by first | decide | omega) (by first | decide | omega) ?_)
  intro z tz oR3 γ6 h7 hz0 hz4 hRp P6 C6
  have S := S.after (xs := []) (cs := (aR, oR1) :: (aO, oO) :: (bcs c o ++ cs)) P6 (cs' := (aR, oR3) :: (aO, oO) :: (bcs c o ++ cs)) rfl C6
  simp only [List.nil_append] at S
  have s6 := P6.sub
  have I := I.sub s6
  have H := H.sub s6
  have g_C := s6 _ _ g_C
  have g_W := s6 _ _ g_W
  have g_N := s6 _ _ g_N
  have g_P := s6 _ _ g_P
  wtm_at "gos"
  obtain ⟨z, rfl⟩ : ∃ z' : Nat, z = (z' : Nat) := ⟨z.toNat, by omega⟩
  rw [show (60 : Int) + (z : Nat) = ((60 + z : Nat) : Int) by omega]
  refine c_range (n := 60 + z) S ?_
  intro r7 γ7 h8 ta tb tc s7 hr7 S
  refine it_range S hr7 (by first | decide | omega) ?_
  intro It7 oI7 h9 ok7 S
  have I := I.sub s7
  have H := H.sub s7
  have g_C := s7 _ _ g_C
  have g_W := s7 _ _ g_W
  have g_N := s7 _ _ g_N
  have g_P := s7 _ _ g_P
  have hlf3 : Lf B [3] := fun p hp => by
    rw [List.mem_singleton] at hp; subst hp
    exact ⟨_, B0.names hB0 0 (by first | decide | omega), sne (by decide)⟩
  refine cd_for E (It.range hr'.h) ok7 S (fun i γ' m' led' => ∃ (f : Nat) (tf : Tok) (aP : Addr) (ps : List Value) (e : Nat) (Fs : List Nat) (o2 : BO) (B2 : List TKey), led' = (aR, oR3) :: (aO, oO) :: (bcs c o2 ++ cs) ∧ m' (Str.ofString "found") = some (.int (f : Nat) tf) ∧ m' (Str.ofString "parts") = some (.ref aP) ∧ m' (Str.ofString "way") = some (.int w t1) ∧ m' (Str.ofString "names") = some (.ref aN) ∧ m' (Str.ofString "world") = some (.ref aW) ∧
      γ' aP = some (lo ps e) ∧ Nats ps Fs ∧ Fs.length = i + 1 ∧ Lf B2 Fs ∧ Flat B2 [f] Fs (2 * i + 1) ∧ BR G γ' o2 B2 ∧ B <+: B2 ∧ B2.length ≤ B.length + i)
    ⟨3, tn0, aP, _, 0, [3], o, B, rfl, by wtm_at "lk", by wtm_at "lk", by wtm_at "lk", by wtm_at "lk", by wtm_at "lk", g_P, .cons .nil, rfl, hlf3, hlf3.flat, H, List.prefix_rfl, by omega⟩ ?_ ?_ (by kernel_rfl)
  · rintro i v γ9 m9 led9 oI8 h10 hi ⟨tv, rfl⟩ s9 ⟨f, tf, aP, ps, e, Fs, o2, B2, rfl, m_found, m_parts, m_way, m_names, m_world, g_P, hps, hFl, hlf, hfl, H, hpre, hlen⟩ S
    have I := I.sub s9
    have g_C := s9 _ _ g_C
    have g_W := s9 _ _ g_W
    have g_N := s9 _ _ g_N
    have hi4 : i * i % 4 < 4 := Nat.mod_lt _ (by first | decide | omega)
    have hpsl := hps.len
    have hlat : B2[3 + i * i % 4]? = some ⟨Str.ofString "app", ci [], ((i * i % 4 : Nat) : Int)⟩ := B0.names (hB0.trans hpre) _ hi4
    have hfat : ∃ k, B2[f]? = some k := by
      cases hfl with
      | leaf a _ _ => exact ⟨_, a⟩
      | open_ a _ _ _ => exact ⟨_, a⟩
    obtain ⟨tn, hn⟩ := hNN.got (i := i * i % 4) (n := 3 + i * i % 4) (by
      match i * i % 4, hi4 with
      | 0, _ => rfl
      | 1, _ => rfl
      | 2, _ => rfl
      | 3, _ => rfl)
    refine x_seq ?_; intro K3a kn3a kr3a
    wtm_at "gos"
    refine o_mul (PySem.IntMulOk.of_right (PySem.intBits_le_64 (by first | decide | omega) (by first | decide | omega))) ?_
    intro tm
    wtm_at "gos"
    rw [show ((i : Nat) : Int) * (i : Nat) = ((i * i : Nat) : Int) by push_cast; rfl]
    refine o_modn (b := 4) (by first | decide | omega) ?_
    intro tm2
    refine i_list (S.get g_N) (by first | decide | omega) (by first | decide | omega) (v := .int (3 + i * i % 4 : Nat) tn) (by rw [Int.toNat_natCast]; exact hn) ?_ sub_bin
    refine n_store (by assumption) E ?_ (by kernel_rfl); intro h11 S
    refine kn3a _ ?_; clear kn3a kr3a K3a
    refine x_seq ?_; intro K4 kn4 kr4
    refine x_If ?_
    refine WP.mono (Q := fun b h' => h' = h11) ?_ ?_
    · repeat' (first | rfl | (refine o_modn (b := 2) (by first | decide | omega) ?_; intro _) | wtm_at "go" | split | (rw [if_neg Bool.false_ne_true]))
    rintro b h' rfl
    cases b with
    | true =>
      rw [if_pos rfl]
      refine x_seq ?_; intro K5 kn5 kr5
      refine x_Swap (names := [Str.ofString "found", Str.ofString "parts"]) (swapped_of E fun e => by kernel_rfl) (by rfl) ?_
      wtm_at "gos"
      refine m_get (f := 549) D S I (by kernel_rfl) (by kernel_rfl) ?_
      refine cw_K D (by kernel_rfl) ?_ (by rfl) (by rfl)
      wtm_at "gos"
      refine ⟨small (by simp), ?_⟩
      obtain ⟨γ10, r10, hsz, s10, g_l, S⟩ := S.madeX (lo [.int (f : Nat) tf, .int (3 + i * i % 4 : Nat) tn] 0) rfl
      rw [hsz]
      have I := I.sub s10
      have H := H.sub s10
      have g_C := s10 _ _ g_C
      have g_W := s10 _ _ g_W
      have g_N := s10 _ _ g_N
      have g_P := s10 _ _ g_P
      wtm_at "gos"
      refine ⟨S.kin D, ?_⟩
      have hpl := hpre.length_le
      refine wp_call (or_of_ok D (hr'.less (by first | decide | omega) : Room A' (0 + 3)) I H (S.sit (xs := [(It7, oI8), (aR, oR3), (aO, oO)]) (cs := bcs c o2 ++ cs)) (by first | decide | omega) (by first | decide | omega) hs g_l (.cons (.cons .nil)) (by
        intro x hx
        rcases List.mem_cons.mp hx with rfl | hx
        · exact hfat
        · rw [List.mem_singleton] at hx; subst hx; exact ⟨_, hlat⟩) (by simp) (by simp) ?_)
      intro i11 t11 o11 B11 γ11 h11 M11 H11 P11 C11
      have S := S.after (xs := [(It7, oI8), (aR, oR3), (aO, oO)]) (cs := bcs c o2 ++ cs) P11 (cs' := bcs c o11 ++ cs) rfl C11
      simp only [List.cons_append, List.nil_append] at S
      have s11 := P11.sub
      have H := H11
      have I := I.sub s11
      have g_C := s11 _ _ g_C
      have g_W := s11 _ _ g_W
      have g_N := s11 _ _ g_N
      have g_P := s11 _ _ g_P
      wtm_at "gos"
      refine ⟨small (by simp), ?_⟩
      obtain ⟨γ12, r12, hsz, s12, g_q, S⟩ := S.madeX (lo [.int (3 + i * i % 4 : Nat) tn] 0) rfl
      rw [hsz]
      have I := I.sub s12
      have H := H.sub s12
      have g_C := s12 _ _ g_C
      have g_W := s12 _ _ g_W
      have g_N := s12 _ _ g_N
      have g_P := s12 _ _ g_P
      refine o_adds S (S.get g_P) (S.get g_q) (by simp; omega) ?_
      intro r13 γ13 h13 s13 g_P2 S
      wtm_at "gos"
      refine ⟨small (by simp), ?_⟩
      obtain ⟨γ14, r14, hsz, s14, hr14, S⟩ := S.madeX (tu [.int (i11 : Nat) t11, .ref r13] 0) rfl
      rw [hsz]
      have s1314 := s13.trans s14
      have I := I.sub s1314
      have H := H.sub s1314
      have g_C := s1314 _ _ g_C
      have g_W := s1314 _ _ g_W
      have g_N := s1314 _ _ g_N
      refine u_tup hr'.h S (S.get hr14) rfl ?_
      intro h15 S
      refine io_cons (bn ?_)
      refine n_store (by assumption) E ?_ (by kernel_rfl); intro _ S
      refine io_cons (bn ?_)
      refine n_store (by assumption) E ?_ (by kernel_rfl); intro _ S
      refine io_nil ?_
      refine kn5 _ ?_; clear kn5 kr5 K5
      wtm_at "gos"
      refine kn4 _ ?_; clear kn4 kr4 K4
      wtm_at "gos"
      have hpre2 := M11.pre
      have hlf2 : Lf B11 [3 + i * i % 4] := fun p hp => by
        rw [List.mem_singleton] at hp; subst hp
        exact ⟨_, pre_get hpre2 hlat, sne (by decide)⟩
      have hfl2 := hfl.mono hpre2
      have hl2 := hlf2.flat
      refine ⟨γ14, _, _, (s10.trans ((s11.trans s12).trans s1314)), ⟨i11, t11, r13, _, 0, Fs ++ [3 + i * i % 4], o11, B11, rfl, by wtm_at "lk", by wtm_at "lk", by wtm_at "lk", by wtm_at "lk", by wtm_at "lk", s14 _ _ g_P2, hps.append (.cons .nil), by simp; omega, (hlf.mono hpre2).app hlf2, ?_, H, hpre.trans hpre2, by have := M11.len; omega⟩, S⟩
      have z := hfl2.app hl2
      exact Flat.open_ M11.2.1 rfl rfl (z.cast (by simp) (by simp; omega))
    | false =>
      rw [if_neg (by decide)]
      refine x_seq ?_; intro K5 kn5 kr5
      refine x_Swap (names := [Str.ofString "found", Str.ofString "parts"]) (swapped_of E fun e => by kernel_rfl) (by rfl) ?_
      wtm_at "gos"
      refine m_get (f := 549) D S I (by kernel_rfl) (by kernel_rfl) ?_
      refine cw_K D (by kernel_rfl) ?_ (by rfl) (by rfl)
      wtm_at "gos"
      refine ⟨small (by simp), ?_⟩
      obtain ⟨γ10, r10, hsz, s10, g_l, S⟩ := S.madeX (lo [.int (3 + i * i % 4 : Nat) tn, .int (f : Nat) tf] 0) rfl
      rw [hsz]
      have I := I.sub s10
      have H := H.sub s10
      have g_C := s10 _ _ g_C
      have g_W := s10 _ _ g_W
      have g_N := s10 _ _ g_N
      have g_P := s10 _ _ g_P
      wtm_at "gos"
      refine ⟨S.kin D, ?_⟩
      have hpl := hpre.length_le
      refine wp_call (or_of_ok D (hr'.less (by first | decide | omega) : Room A' (0 + 3)) I H (S.sit (xs := [(It7, oI8), (aR, oR3), (aO, oO)]) (cs := bcs c o2 ++ cs)) (by first | decide | omega) (by first | decide | omega) hs g_l (.cons (.cons .nil)) (by
        intro x hx
        rcases List.mem_cons.mp hx with rfl | hx
        · exact ⟨_, hlat⟩
        · rw [List.mem_singleton] at hx; subst hx; exact hfat) (by simp) (by simp) ?_)
      intro i11 t11 o11 B11 γ11 h11 M11 H11 P11 C11
      have S := S.after (xs := [(It7, oI8), (aR, oR3), (aO, oO)]) (cs := bcs c o2 ++ cs) P11 (cs' := bcs c o11 ++ cs) rfl C11
      simp only [List.cons_append, List.nil_append] at S
      have s11 := P11.sub
      have H := H11
      have I := I.sub s11
      have g_C := s11 _ _ g_C
      have g_W := s11 _ _ g_W
      have g_N := s11 _ _ g_N
      have g_P := s11 _ _ g_P
      wtm_at "gos"
      refine ⟨small (by simp), ?_⟩
      obtain ⟨γ12, r12, hsz, s12, g_q, S⟩ := S.madeX (lo [.int (3 + i * i % 4 : Nat) tn] 0) rfl
      rw [hsz]
      have I := I.sub s12
      have H := H.sub s12
      have g_C := s12 _ _ g_C
      have g_W := s12 _ _ g_W
      have g_N := s12 _ _ g_N
      have g_P := s12 _ _ g_P
      wtm_at "gos"
      refine o_adds S (S.get g_q) (S.get g_P) (by simp; omega) ?_
      intro r13 γ13 h13 s13 g_P2 S
      wtm_at "gos"
      refine ⟨small (by simp), ?_⟩
      obtain ⟨γ14, r14, hsz, s14, hr14, S⟩ := S.madeX (tu [.int (i11 : Nat) t11, .ref r13] 0) rfl
      rw [hsz]
      have s1314 := s13.trans s14
      have I := I.sub s1314
      have H := H.sub s1314
      have g_C := s1314 _ _ g_C
      have g_W := s1314 _ _ g_W
      have g_N := s1314 _ _ g_N
      refine u_tup hr'.h S (S.get hr14) rfl ?_
      intro h15 S
      refine io_cons (bn ?_)
      refine n_store (by assumption) E ?_ (by kernel_rfl); intro _ S
      refine io_cons (bn ?_)
      refine n_store (by assumption) E ?_ (by kernel_rfl); intro _ S
      refine io_nil ?_
      refine kn5 _ ?_; clear kn5 kr5 K5
      wtm_at "gos"
      refine kn4 _ ?_; clear kn4 kr4 K4
      wtm_at "gos"
      have hpre2 := M11.pre
      have hlf2 : Lf B11 [3 + i * i % 4] := fun p hp => by
        rw [List.mem_singleton] at hp; subst hp
        exact ⟨_, pre_get hpre2 hlat, sne (by decide)⟩
      have hfl2 := hfl.mono hpre2
      have hl2 := hlf2.flat
      refine ⟨γ14, _, _, (s10.trans ((s11.trans s12).trans s1314)), ⟨i11, t11, r13, _, 0, [3 + i * i % 4] ++ Fs, o11, B11, rfl, by wtm_at "lk", by wtm_at "lk", by wtm_at "lk", by wtm_at "lk", by wtm_at "lk", s14 _ _ g_P2, Nats.append (.cons .nil) hps, by simp; omega, hlf2.app (hlf.mono hpre2), ?_, H, hpre.trans hpre2, by have := M11.len; omega⟩, S⟩
      have z := hl2.app hfl2
      exact Flat.open_ M11.2.1 rfl rfl (z.cast (by simp) (by simp; omega))
  · rintro γ9 m9 led9 h10 s9 ⟨f, tf, aP, ps, e, Fs, o2, B2, rfl, m_found, m_parts, m_way, m_names, m_world, g_P, hps, hFl, hlf, hfl, H, hpre, hlen⟩ S
    refine kn3 _ ?_; clear kn3 kr3 K3
    refine x_seq ?_; intro K9 kn9 kr9
    wtm_at "gos"
    refine ⟨small (by simp), ?_⟩
    obtain ⟨γ11, r11, hsz, s11, hr11, S⟩ := S.madeX (tu [.int (f : Nat) tf, .ref aP] 0) rfl
    rw [hsz]
    refine kr9 _ _ ?_
    exact fin r11 tf aP 0 e ps Fs f _ oR3 o2 B2 γ11 _ hr11 (s11 _ _ g_P) hps (by first | decide | omega) hlf hfl (by first | decide | omega) (H.sub s11) hpre (by first | decide | omega) (post _ _ _ _ S) (fun p hp => (S.nw p hp).1)
theorem told_ok {G : Gl} {A : Around} {h : Heap} {γ : Pm} {n : Nat} (D : Gd G) (hr : Room A (n + 4)) {c : BC} {x : CC} {q1 q2 : Tok} {o : BO} {B : List TKey} {cs : Led} {R : Value → Heap → Prop} {aA aD : Addr} {vs us : List Value} {eA eD : Nat} {ns F : List Nat} {N : Nat}
    (J : Ins G γ x.k 300 (ckv c.b x)) (I : Ins G γ c.b 622 (bkv c (bful q1 q2))) (H : BR G γ o B) (T : Sit G γ (bcs c o ++ cs) h) (hB : B.length ≤ 1000000) (g_A : γ aA = some (lo vs eA)) (hv : Nats vs ns) (g_D : γ aD = some (lo us eD)) (hu : Nats us F) (hF : Flat B ns F N) (hN : N ≤ 10000) (hL : Lf B F) (hFl : F.length ≤ 10000)
    (fin : ∀ γ' h', Same γ h (bcs c o ++ cs) γ' h' → R (.bool true) h') : CD G A (.call (.ref 650) ⟨[.ref x.k, .ref aA, .ref aD], []⟩) (Ret R) h := by
  refine call_def D T hr (st := topAt 29) (nm := Str.ofString "_law_are_told") (ql := Str.ofString "_law_are_told") (pm := (Value.str (Str.ofString "law_qz0017_01") 1020)) (cd := .ref 649) (binds := [(Str.ofString "clauses", .ref x.k), (Str.ofString "args", .ref aA), (Str.ofString "due", .ref aD)]) (by kernel_rfl) (by kernel_rfl) (by kernel_rfl) (by decide +kernel) (locs (by kernel_rfl)) (by kernel_rfl) (by kernel_rfl) (by kernel_rfl) ?_
  intro an L h₁ en A' E hr' post S
  generalize hb : fBod (topAt 29) = b
  conv at hb => lhs; whnf
  subst hb
  simp only [puts, List.foldl] at S
  have hnl := hF.len
  have hvl := hv.len
  refine x_seq ?_; intro K1 kn1 kr1
  wtm_at "gos"
  refine m_get (f := 297) D S J (by kernel_rfl) (by kernel_rfl) ?_
  refine cw_K D (by kernel_rfl) ?_ (by rfl) (by rfl)
  wtm_at "gos"
  refine ⟨S.kin D, ?_⟩
  refine wp_call (alternatives_ok D (hr'.less (by first | decide | omega) : Room A' (0 + 3)) J I H (S.sit (xs := []) (cs := bcs c o ++ cs)) hB (⟨eA, .inl g_A⟩) hv hF (by first | decide | omega) ?_)
  intro r1 us1 e1 γ1 h1 g_1 hn1 sm1
  have S := S.same (xs := []) (cs := bcs c o ++ cs) sm1
  simp only [List.nil_append] at S
  have s1 := sm1.1.sub
  have J := J.sub s1
  have I := I.sub s1
  have H := H.sub s1
  have g_A := s1 _ _ g_A
  have g_D := s1 _ _ g_D
  refine n_store (by assumption) E ?_ (by kernel_rfl); intro _ S
  refine kn1 _ ?_; clear kn1 kr1 K1
  refine x_seq ?_; intro K2 kn2 kr2
  refine x_Ret ?_
  refine e_and ?_
  wtm_at "gos"
  refine eq_ints hr' (S.get g_1) (S.get g_D) hn1.ints hu.ints ?_
  rw [decide_eq_true rfl]
  wtm_at "gos"
  rw [if_pos rfl]
  refine e_and ?_
  wtm_at "gos"
  refine m_get (f := 297) D S J (by kernel_rfl) (by kernel_rfl) ?_
  refine cw_K D (by kernel_rfl) ?_ (by rfl) (by rfl)
  wtm_at "gos"
  refine n_bi (v := .type "tuple") (by assumption) (by assumption) (by assumption) (ns_tuple _) (by kernel_rfl) (sne (by decide)) ?_ (by kernel_rfl) (by kernel_rfl)
  refine cw_B (by rfl) ?_ (by rfl) (by rfl)
  wtm_at "gos"
  refine c_tuple S (S.get g_A) (by first | decide | omega) ?_
  intro rt γt ht st g_t S
  have J := J.sub st
  have I := I.sub st
  have H := H.sub st
  have g_A := st _ _ g_A
  have g_D := st _ _ g_D
  have g_1 := st _ _ g_1
  wtm_at "gos"
  refine ⟨S.kin D, ?_⟩
  refine wp_call (alternatives_ok D (hr'.less (by first | decide | omega) : Room A' (0 + 3)) J I H (S.sit (xs := []) (cs := bcs c o ++ cs)) hB (⟨0, .inr g_t⟩) hv hF (by first | decide | omega) ?_)
  intro r2 us2 e2 γ2 h2 g_2 hn2 sm2
  have S := S.same (xs := []) (cs := bcs c o ++ cs) sm2
  simp only [List.nil_append] at S
  have s2 := sm2.1.sub
  have J := J.sub s2
  have I := I.sub s2
  have H := H.sub s2
  have g_A := s2 _ _ g_A
  have g_D := s2 _ _ g_D
  have g_1 := s2 _ _ g_1
  wtm_at "gos"
  refine eq_ints hr' (S.get g_2) (S.get g_D) hn2.ints hu.ints ?_
  rw [decide_eq_true rfl]
  wtm_at "gos"
  rw [if_pos rfl]
  refine e_one ?_
  wtm_at "gos"
  refine m_get (f := 297) D S J (by kernel_rfl) (by kernel_rfl) ?_
  refine cw_K D (by kernel_rfl) ?_ (by rfl) (by rfl)
  wtm_at "gos"
  refine ⟨S.kin D, ?_⟩
  refine wp_call (alternatives_ok D (hr'.less (by first | decide | omega) : Room A' (0 + 3)) J I H (S.sit (xs := []) (cs := bcs c o ++ cs)) hB (⟨e1, .inl g_1⟩) hn1 hL.flat (by first | decide | omega) ?_)
  intro r3 us3 e3 γ3 h3 g_3 hn3 sm3
  have S := S.same (xs := []) (cs := bcs c o ++ cs) sm3
  simp only [List.nil_append] at S
  have s3 := sm3.1.sub
  have J := J.sub s3
  have I := I.sub s3
  have H := H.sub s3
  have g_A := s3 _ _ g_A
  have g_D := s3 _ _ g_D
  have g_1 := s3 _ _ g_1
  wtm_at "gos"
  refine eq_ints hr' (S.get g_3) (S.get g_D) hn3.ints hu.ints ?_
  rw [decide_eq_true rfl]
  refine kr2 _ _ ?_
  exact fin _ _ ⟨post _ _ _ _ S, fun p hp => (S.nw p hp).1⟩
theorem St.pushX {G : Gl} {an : An} {γ : Pm} {L : Addr} {m : Mp} {led : Led} {h : Heap} (S : St G an γ L m led h) (o : Obj) (hf : o.isFreed = false) : ∃ r, h.objs.size = r ∧ an.h0.objs.size ≤ r ∧ St G an γ L m ((r, o) :: led) (h.push o) :=
  ⟨_, rfl, S.up, S.push_led o hf⟩
theorem Made.fresh {B B' : List TKey} {k : TKey} {i : Nat} (M : Made B k i B') (h : ∀ j, 0 < j → B[j]? ≠ some k) : i = B.length ∧ B' = B ++ [k] := by
  rcases M.2.2 with e | e
  · subst e; exact absurd M.2.1 (h i M.1)
  · exact e
theorem sys_lt {G : Gl} (D : Gd G) {γ : Pm} {cs : Led} {h : Heap} (T : Sit G γ cs h) {a : Addr} (ha : h.objs.size ≤ a) : (a == sysModules) = false := by
  have e : (KF G.w.params).lookup 451 = some (fnO (metAt 23 19) (Str.ofString "make") (Str.ofString "Bank.make") (Value.str (Str.ofString "minismt.terms") 598) (.ref 450)) := by kernel_rfl
  have := get_lt (T.on _ _ (T.base _ _ (D.kin _ _ e)))
  have h1 : (451 : Nat) < h.objs.size := this
  have h2 : h.objs.size ≤ (a : Nat) := ha
  exact beq_false_of_ne (Nat.ne_of_gt (Nat.lt_of_lt_of_le (by omega : 1 < h.objs.size) ha))

theorem bank_ok {G : Gl} {A : Around} {h : Heap} {γ : Pm} {n : Nat} (D : Gd G) (hr : Room A (n + 3)) {b d : Addr} {R : Value → Heap → Prop} (T : Sit G γ [(d, dictOf [] 0)] h) (g_b : γ b = some (instObj 622 d))
    (fin : ∀ c q1 q2 o' es n' γ' h', c.b = b → Es G.w es (bkv c (bful q1 q2)) → BR G γ' o' (B0.take 3) → (c.a5 == sysModules) = false → Post γ h [d] γ' h' → (∀ p ∈ [(d, dictOf es n')], h'.get? p.1 = some p.2) → News h γ' ((c.f1, lo [] 0) :: (c.f2, lo [] 0) :: (c.f3, lo [] 0) :: bcs c o') h' → R .none h') :
    CD G A (.call (.ref 318) ⟨[.ref b], []⟩) (Ret R) h := by
  refine call_defA D T hr (st := metAt 23 0) (nm := Str.ofString "__init__") (ql := Str.ofString "Bank.__init__") (pm := (Value.str (Str.ofString "minismt.terms") 598)) (cd := .ref 317) (binds := [(Str.ofString "self", .ref b)]) (by kernel_rfl) (by kernel_rfl) (by kernel_rfl) (by decide +kernel) (locs (by kernel_rfl)) (by kernel_rfl) (by kernel_rfl) (by kernel_rfl) ?_
  intro an L h₁ en A' hmt hh0 E hr' post S
  generalize hb : fBod (metAt 23 0) = b
  conv at hb => lhs; whnf
  subst hb
  simp only [puts, List.foldl] at S
  have hE : Es G.w [] [] := .nil
  have g_b := g_b
  refine x_seq ?_; intro K1 kn1 kr1
  wtm_at "gos"
  rename_i ta tb tc
  refine ⟨small (by simp), ?_⟩
  obtain ⟨γ1, v1, hsz, s1, g_v1, S⟩ := S.madeX (lo [.str (Str.ofString "Bool") ta, .str (Str.ofString "Int") tb, .str (Str.ofString "Real") tc] 0) rfl
  rw [hsz]
  have g_b := s1 _ _ g_b
  wtm_at "gos"
  refine l_attr D S g_b (fun _ => by wtm_at "u") hE (by kernel_rfl) (by kernel_rfl) (by simp) ?_
  intro es1 en1 h1 hE S
  simp only [List.nil_append, List.cons_append] at hE
  refine kn1 _ ?_; clear kn1 kr1 K1
  refine x_seq ?_; intro K2 kn2 kr2
  wtm_at "gos"
  rename_i ta2 tb2 tc2
  refine ⟨small (by simp), ?_⟩
  obtain ⟨γ2, v2, hsz, s2, g_v2, S⟩ := S.madeX (lo [.int 0 ta2, .int 0 tb2, .int 0 tc2] 0) rfl
  rw [hsz]
  have g_b := s2 _ _ g_b
  wtm_at "gos"
  refine l_attr D S g_b (fun _ => by wtm_at "u") hE (by kernel_rfl) (by kernel_rfl) (by simp) ?_
  intro es2 en2 h2 hE S
  simp only [List.nil_append, List.cons_append] at hE
  refine kn2 _ ?_; clear kn2 kr2 K2
  refine x_seq ?_; intro K3 kn3 kr3
  wtm_at "gos"
  refine ⟨small (by simp), ?_⟩
  obtain ⟨f1, hsz, hup_f1, S⟩ := S.pushX (lo [] 0) rfl
  rw [hsz]
  wtm_at "gos"
  refine l_attr D S g_b (fun _ => by wtm_at "u") hE (by kernel_rfl) (by kernel_rfl) (by simp) ?_
  intro es3 en3 h3 hE S
  simp only [List.nil_append, List.cons_append] at hE
  refine kn3 _ ?_; clear kn3 kr3 K3
  refine x_seq ?_; intro K4 kn4 kr4
  wtm_at "gos"
  refine ⟨small (by simp), ?_⟩
  obtain ⟨f2, hsz, hup_f2, S⟩ := S.pushX (lo [] 0) rfl
  rw [hsz]
  wtm_at "gos"
  refine l_attr D S g_b (fun _ => by wtm_at "u") hE (by kernel_rfl) (by kernel_rfl) (by simp) ?_
  intro es4 en4 h4 hE S
  simp only [List.nil_append, List.cons_append] at hE
  refine kn4 _ ?_; clear kn4 kr4 K4
  refine x_seq ?_; intro K5 kn5 kr5
  wtm_at "gos"
  refine ⟨small (by simp), ?_⟩
  obtain ⟨f3, hsz, hup_f3, S⟩ := S.pushX (lo [] 0) rfl
  rw [hsz]
  wtm_at "gos"
  refine l_attr D S g_b (fun _ => by wtm_at "u") hE (by kernel_rfl) (by kernel_rfl) (by simp) ?_
  intro es5 en5 h5 hE S
  simp only [List.nil_append, List.cons_append] at hE
  refine kn5 _ ?_; clear kn5 kr5 K5
  refine x_seq ?_; intro K6 kn6 kr6
  wtm_at "gos"
  rename_i t0
  refine l_attr D S g_b (fun _ => by wtm_at "u") hE (by kernel_rfl) (by kernel_rfl) (by simp) ?_
  intro es6 en6 h6 hE S
  simp only [List.nil_append, List.cons_append] at hE
  refine kn6 _ ?_; clear kn6 kr6 K6
  refine x_seq ?_; intro K7 kn7 kr7
  wtm_at "gos"
  rename_i t7
  refine ⟨small (by simp), ?_⟩
  obtain ⟨a1, hsz, hup_a1, S⟩ := S.pushX (lo [.str (Str.ofString "") t7] 0) rfl
  rw [hsz]
  wtm_at "gos"
  refine l_attr D S g_b (fun _ => by wtm_at "u") hE (by kernel_rfl) (by kernel_rfl) (by simp) ?_
  intro es7 en7 h7 hE S
  simp only [List.nil_append, List.cons_append] at hE
  refine kn7 _ ?_; clear kn7 kr7 K7
  refine x_seq ?_; intro K8 kn8 kr8
  wtm_at "gos"
  refine ⟨small (by simp), ?_⟩
  obtain ⟨γe, e0, hsz, se, g_e0, S⟩ := S.madeX (tu [] 0) rfl
  rw [hsz]
  have g_b := se _ _ g_b
  wtm_at "gos"
  refine ⟨small (by simp), ?_⟩
  obtain ⟨a2, hsz, hup_a2, S⟩ := S.pushX (lo [.ref e0] 0) rfl
  rw [hsz]
  wtm_at "gos"
  refine l_attr D S g_b (fun _ => by wtm_at "u") hE (by kernel_rfl) (by kernel_rfl) (by simp) ?_
  intro es8 en8 h8 hE S
  simp only [List.nil_append, List.cons_append] at hE
  refine kn8 _ ?_; clear kn8 kr8 K8
  refine x_seq ?_; intro K9 kn9 kr9
  wtm_at "gos"
  refine n_glob (v := .int 0 600) (by assumption) (by assumption) (by assumption) (ns_BOOL _) ?_ (by kernel_rfl) (by kernel_rfl)
  wtm_at "gos"
  refine ⟨small (by simp), ?_⟩
  obtain ⟨a3, hsz, hup_a3, S⟩ := S.pushX (lo [.int 0 600] 0) rfl
  rw [hsz]
  wtm_at "gos"
  refine l_attr D S g_b (fun _ => by wtm_at "u") hE (by kernel_rfl) (by kernel_rfl) (by simp) ?_
  intro es9 en9 h9 hE S
  simp only [List.nil_append, List.cons_append] at hE
  refine kn9 _ ?_; clear kn9 kr9 K9
  refine x_seq ?_; intro K10 kn10 kr10
  wtm_at "gos"
  rename_i t10
  refine ⟨small (by simp), ?_⟩
  obtain ⟨a4, hsz, hup_a4, S⟩ := S.pushX (lo [.int 0 t10] 0) rfl
  rw [hsz]
  wtm_at "gos"
  refine l_attr D S g_b (fun _ => by wtm_at "u") hE (by kernel_rfl) (by kernel_rfl) (by simp) ?_
  intro es10 en10 h10 hE S
  simp only [List.nil_append, List.cons_append] at hE
  refine kn10 _ ?_; clear kn10 kr10 K10
  refine x_seq ?_; intro K11 kn11 kr11
  wtm_at "gos"
  refine e_Dict0 ?_
  obtain ⟨a5, hsz, hup_a5, S⟩ := S.pushX emd rfl
  rw [hsz]
  wtm_at "gos"
  refine l_attr D S g_b (fun _ => by wtm_at "u") hE (by kernel_rfl) (by kernel_rfl) (by simp) ?_
  intro es11 en11 h11 hE S
  simp only [List.nil_append, List.cons_append] at hE
  refine kn11 _ ?_; clear kn11 kr11 K11
  have S := S.perm (List.reverse_perm _).symm
  simp only [List.reverse_cons, List.reverse_nil, List.nil_append, List.cons_append] at S
  have hsm : (a5 == sysModules) = false := sys_lt D T (hh0 ▸ hup_a5)
  have hE : Es G.w es11 (bkv (⟨b, v1, v2, f1, f2, f3, t0, a1, a2, a3, a4, a5⟩ : BC) []) := hE
  have S : St G an γe L (put (fun _ => none) (Str.ofString "self") (.ref b)) ([(d, dictOf es11 en11), (f1, lo [] 0), (f2, lo [] 0), (f3, lo [] 0)] ++ (bcs (⟨b, v1, v2, f1, f2, f3, t0, a1, a2, a3, a4, a5⟩ : BC) ⟨lo [.str (Str.ofString "") t7] 0, lo [.ref e0] 0, lo [.int 0 600] 0, lo [.int 0 t10] 0, emd⟩ ++ [])) h11 := S
  have H : BR G γe ⟨lo [.str (Str.ofString "") t7] 0, lo [.ref e0] 0, lo [.int 0 600] 0, lo [.int 0 t10] 0, emd⟩ [⟨Str.ofString "", ci [], 0⟩] := by
    have one : ∀ {i : Nat} {k k0 : TKey}, [k0][i]? = some k → i = 0 ∧ k = k0 := fun {i k k0} e => by
      cases i with
      | zero => simp at e; exact ⟨rfl, e.symm⟩
      | succ i => simp at e
    refine ⟨⟨_, _, rfl, rfl, fun i k e => ?_⟩, ⟨_, _, rfl, rfl, fun i k e => ?_⟩, ⟨_, _, rfl, rfl, fun i k e => ?_⟩, ⟨_, _, rfl, rfl⟩, ⟨[], ?_, ⟨fun k p v hm => (nomatch hm), fun i k hi e => ?_, rfl⟩⟩⟩
    · obtain ⟨rfl, rfl⟩ := one e; exact ⟨t7, rfl⟩
    · obtain ⟨rfl, rfl⟩ := one e; exact ⟨e0, rfl, [], 0, g_e0, .nil⟩
    · obtain ⟨rfl, rfl⟩ := one e; exact ⟨600, rfl⟩
    · exact ⟨⟨rfl, rfl, rfl⟩, #[], 0, rfl, rfl, (fun x hx => nomatch hx), .nil⟩
    · obtain ⟨rfl, rfl⟩ := one e; omega
  refine x_seq ?_; intro K12 kn12 kr12
  wtm_at "gos"
  refine m_getH (f := 451) D S g_b (by wtm_at "mem") hE (by kernel_rfl) (by kernel_rfl) ?_
  refine cw_K D (by kernel_rfl) ?_ (by rfl) (by rfl)
  wtm_at "gos"
  refine ⟨small (by simp), ?_⟩
  obtain ⟨γm12, et, hsz, sm12, g_et, S⟩ := S.madeX (tu [] 0) rfl
  rw [hsz]
  have g_b := sm12 _ _ g_b
  have H := H.sub sm12
  wtm_at "gos"
  refine n_glob (v := .int 0 600) (by assumption) (by assumption) (by assumption) (ns_BOOL _) ?_ (by kernel_rfl) (by kernel_rfl)
  wtm_at "gos"
  refine ⟨S.kin D, ?_⟩
  have gd := (S.nw (d, dictOf es11 en11) (by wtm_at "mem")).2.1
  have sl := Sub.ins (o := dictOf es11 en11) gd
  refine wp_call (make_ok (c := (⟨b, v1, v2, f1, f2, f3, t0, a1, a2, a3, a4, a5⟩ : BC)) (o := ⟨lo [.str (Str.ofString "") t7] 0, lo [.ref e0] 0, lo [.int 0 600] 0, lo [.int 0 t10] 0, emd⟩) (B := [⟨Str.ofString "", ci [], 0⟩]) (cs := []) D (hr'.less (by first | decide | omega) : Room A' (0 + 2)) ⟨d, es11, en11, sl _ _ g_b, ins_self, hE⟩ (H.sub sl) (S.lend (xs := [(d, dictOf es11 en11), (f1, lo [] 0), (f2, lo [] 0), (f3, lo [] 0)]) (cs := bcs (⟨b, v1, v2, f1, f2, f3, t0, a1, a2, a3, a4, a5⟩ : BC) ⟨lo [.str (Str.ofString "") t7] 0, lo [.ref e0] 0, lo [.int 0 600] 0, lo [.int 0 t10] 0, emd⟩ ++ []) (by wtm_at "mem")) (args := []) ⟨[], 0, sl _ _ g_et, .nil⟩ (by simp) (by simp) hsm ?_)
  intro i12 t12 o12 B12 γ12 hm12 M12 H12 P12 C12
  have H := H12.del (P12.sub _ _ ins_self)
  have P12 := P12.back gd
  have S := S.after (xs := [(d, dictOf es11 en11), (f1, lo [] 0), (f2, lo [] 0), (f3, lo [] 0)]) (cs := bcs (⟨b, v1, v2, f1, f2, f3, t0, a1, a2, a3, a4, a5⟩ : BC) ⟨lo [.str (Str.ofString "") t7] 0, lo [.ref e0] 0, lo [.int 0 600] 0, lo [.int 0 t10] 0, emd⟩ ++ []) P12 (cs' := bcs (⟨b, v1, v2, f1, f2, f3, t0, a1, a2, a3, a4, a5⟩ : BC) o12 ++ []) rfl C12
  have g_b := P12.sub _ _ g_b
  obtain ⟨rfl, rfl⟩ := M12.fresh (by
    intro j hj e
    cases j with
    | zero => omega
    | succ j => simp at e)
  wtm_at "gos"
  refine l_attr D S g_b (fun _ => by wtm_at "u") hE (by kernel_rfl) (by kernel_rfl) (by simp) ?_
  intro es12 en12 h12 hE S
  simp only [List.nil_append, List.cons_append] at hE
  refine kn12 _ ?_; clear kn12 kr12 K12
  refine x_seq ?_; intro K13 kn13 kr13
  wtm_at "gos"
  refine m_getH (f := 451) D S g_b (by wtm_at "mem") hE (by kernel_rfl) (by kernel_rfl) ?_
  refine cw_K D (by kernel_rfl) ?_ (by rfl) (by rfl)
  wtm_at "gos"
  refine ⟨small (by simp), ?_⟩
  obtain ⟨γm13, et, hsz, sm13, g_et, S⟩ := S.madeX (tu [] 0) rfl
  rw [hsz]
  have g_b := sm13 _ _ g_b
  have H := H.sub sm13
  wtm_at "gos"
  refine n_glob (v := .int 0 600) (by assumption) (by assumption) (by assumption) (ns_BOOL _) ?_ (by kernel_rfl) (by kernel_rfl)
  wtm_at "gos"
  refine ⟨S.kin D, ?_⟩
  have gd := (S.nw (d, dictOf es12 en12) (by wtm_at "mem")).2.1
  have sl := Sub.ins (o := dictOf es12 en12) gd
  refine wp_call (make_ok (c := (⟨b, v1, v2, f1, f2, f3, t0, a1, a2, a3, a4, a5⟩ : BC)) (o := o12) (B := [⟨Str.ofString "", ci [], 0⟩] ++ [⟨Str.ofString "true", [], 0⟩]) (cs := []) D (hr'.less (by first | decide | omega) : Room A' (0 + 2)) ⟨d, es12, en12, sl _ _ g_b, ins_self, hE⟩ (H.sub sl) (S.lend (xs := [(d, dictOf es12 en12), (f1, lo [] 0), (f2, lo [] 0), (f3, lo [] 0)]) (cs := bcs (⟨b, v1, v2, f1, f2, f3, t0, a1, a2, a3, a4, a5⟩ : BC) o12 ++ []) (by wtm_at "mem")) (args := []) ⟨[], 0, sl _ _ g_et, .nil⟩ (by simp) (by simp) hsm ?_)
  intro i13 t13 o13 B13 γ13 hm13 M13 H13 P13 C13
  have H := H13.del (P13.sub _ _ ins_self)
  have P13 := P13.back gd
  have S := S.after (xs := [(d, dictOf es12 en12), (f1, lo [] 0), (f2, lo [] 0), (f3, lo [] 0)]) (cs := bcs (⟨b, v1, v2, f1, f2, f3, t0, a1, a2, a3, a4, a5⟩ : BC) o12 ++ []) P13 (cs' := bcs (⟨b, v1, v2, f1, f2, f3, t0, a1, a2, a3, a4, a5⟩ : BC) o13 ++ []) rfl C13
  have g_b := P13.sub _ _ g_b
  obtain ⟨rfl, rfl⟩ := M13.fresh (by
    intro j hj e
    match j with
    | 0 => omega
    | 1 => simp at e; exact absurd e (sne (by decide))
    | j + 2 => simp at e)
  wtm_at "gos"
  refine l_attr D S g_b (fun _ => by wtm_at "u") hE (by kernel_rfl) (by kernel_rfl) (by simp) ?_
  intro es13 en13 h13 hE S
  simp only [List.nil_append, List.cons_append] at hE
  refine kn13 _ ?_; clear kn13 kr13 K13
  wtm_at "gos"
  have P := post _ _ _ _ S
  have S := S.perm (List.perm_append_comm (l₁ := [(d, dictOf es13 en13)]) (l₂ := (f1, lo [] 0) :: (f2, lo [] 0) :: (f3, lo [] 0) :: (bcs (⟨b, v1, v2, f1, f2, f3, t0, a1, a2, a3, a4, a5⟩ : BC) o13 ++ [])))
  have N := S.news (cs' := [(d, dictOf es13 en13)]) hmt
  rw [hh0] at N
  refine fin (⟨b, v1, v2, f1, f2, f3, t0, a1, a2, a3, a4, a5⟩ : BC) _ _ o13 es13 en13 _ _ rfl hE H hsm P (fun p hp => (S.nw p (List.mem_append.mpr (.inr hp))).1) ?_
  simpa using N
theorem declare_ok {G : Gl} {A : Around} {h : Heap} {γ : Pm} {n : Nat} (D : Gd G) (hr : Room A (n + 1)) {c : BC} {rest : List (Str × Value)} {cs : Led} {n1 n2 n3 : List Value} {e1 e2 e3 : Nat} {x : Str} {tx tr : Tok} {a : Addr} {R : Value → Heap → Prop}
    (I : Ins G γ c.b 622 (bkv c rest)) (T : Sit G γ ((c.f1, lo n1 e1) :: (c.f2, lo n2 e2) :: (c.f3, lo n3 e3) :: cs) h) (g_a : γ a = some (tu [] 0)) (hz : n1.length ≤ 1000 ∧ n2.length ≤ 1000 ∧ n3.length ≤ 1000)
    (fin : ∀ t n1' e1' n2' e2' n3' e3' γ' h', n1'.length = n1.length + 1 → n2'.length = n2.length + 1 → n3'.length = n3.length + 1 → Post γ h (((c.f1, lo n1 e1) :: (c.f2, lo n2 e2) :: (c.f3, lo n3 e3) :: cs).map (·.1)) γ' h' → (∀ p ∈ (c.f1, lo n1' e1') :: (c.f2, lo n2' e2') :: (c.f3, lo n3' e3') :: cs, h'.get? p.1 = some p.2) → R (.int (n1.length : Nat) t) h') :
    CD G A (.call (.ref 360) ⟨[.ref c.b, .str x tx, .ref a, .int 0 tr], []⟩) (Ret R) h := by
  refine call_def D T hr (st := metAt 23 6) (nm := Str.ofString "declare_fun") (ql := Str.ofString "Bank.declare_fun") (pm := (Value.str (Str.ofString "minismt.terms") 598)) (cd := .ref 359) (binds := [(Str.ofString "self", .ref c.b), (Str.ofString "name", .str x tx), (Str.ofString "arg_sorts", .ref a), (Str.ofString "result", .int 0 tr)]) (by kernel_rfl) (by kernel_rfl) (by kernel_rfl) (by decide +kernel) (locs (by kernel_rfl)) (by kernel_rfl) (by kernel_rfl) (by kernel_rfl) ?_
  intro an L h₁ en A' E hr' post S
  generalize hb : fBod (metAt 23 6) = b
  conv at hb => lhs; whnf
  subst hb
  simp only [puts, List.foldl] at S
  refine x_seq ?_; intro K1 kn1 kr1
  wtm_at "gos"
  refine lm_append (by wtm_at "at") ?_; refine cw_B (by rfl) ?_ (by rfl) (by rfl)
  wtm_at "gos"
  refine l_append S (by wtm_at "u") (by first | decide | omega) ?_
  intro _ S
  refine ⟨rfl, ?_⟩
  refine kn1 _ ?_; clear kn1 kr1 K1
  refine x_seq ?_; intro K2 kn2 kr2
  wtm_at "gos"
  refine lm_append (by wtm_at "at") ?_; refine cw_B (by rfl) ?_ (by rfl) (by rfl)
  wtm_at "gos"
  refine n_bi (v := .type "tuple") (by assumption) (by assumption) (by assumption) (ns_tuple _) (by kernel_rfl) (sne (by decide)) ?_ (by kernel_rfl) (by kernel_rfl)
  refine cw_B (by rfl) ?_ (by rfl) (by rfl)
  wtm_at "gos"
  refine c_tupleT (S.get g_a) ?_
  wtm_at "gos"
  refine l_append S (by wtm_at "u") (by first | decide | omega) ?_
  intro _ S
  refine ⟨rfl, ?_⟩
  refine kn2 _ ?_; clear kn2 kr2 K2
  refine x_seq ?_; intro K3 kn3 kr3
  wtm_at "gos"
  refine lm_append (by wtm_at "at") ?_; refine cw_B (by rfl) ?_ (by rfl) (by rfl)
  wtm_at "gos"
  refine l_append S (by wtm_at "u") (by first | decide | omega) ?_
  intro _ S
  refine ⟨rfl, ?_⟩
  refine kn3 _ ?_; clear kn3 kr3 K3
  refine x_seq ?_; intro K4 kn4 kr4
  wtm_at "gos"
  refine n_bi (v := .builtin "len") (by assumption) (by assumption) (by assumption) (ns_len _) (by kernel_rfl) (sne (by decide)) ?_ (by kernel_rfl) (by kernel_rfl)
  refine cw_B (by rfl) ?_ (by rfl) (by rfl)
  wtm_at "gos"
  refine c_len1 (S.led_get (by wtm_at "mem")) (by simp; omega) ?_
  intro tl
  wtm_at "gos"
  refine kr4 _ _ ?_
  rw [show ((n1 ++ [Value.str x tx]).length : Int) - 1 = (n1.length : Nat) by simp]
  exact fin _ _ _ _ _ _ _ _ _ (by simp) (by simp) (by simp) (post _ _ _ _ S) fun p hp => (S.nw p hp).1
theorem fresh_ok {G : Gl} {A : Around} {h : Heap} {γ : Pm} {n : Nat} (D : Gd G) (hr : Room A (n + 3)) {c : BC} {q1 q2 : Tok} {o : BO} {B : List TKey} {cs : Led} {n1 n2 n3 : List Value} {e1 e2 e3 : Nat} {x : Str} {tx tr : Tok} {R : Value → Heap → Prop}
    (I : Ins G γ c.b 622 (bkv c (bful q1 q2))) (H : BR G γ o B) (T : Sit G γ ((c.f1, lo n1 e1) :: (c.f2, lo n2 e2) :: (c.f3, lo n3 e3) :: (bcs c o ++ cs)) h) (hB : B.length ≤ 1000000) (h0 : 0 < B.length) (hs : (c.a5 == sysModules) = false) (hz : n1.length ≤ 1000 ∧ n2.length ≤ 1000 ∧ n3.length ≤ 1000)
    (fin : ∀ i t o' B' n1' e1' n2' e2' n3' e3' γ' h', Made B ⟨Str.ofString "app", ci [], (n1.length : Nat)⟩ i B' → BR G γ' o' B' → n1'.length = n1.length + 1 → n2'.length = n2.length + 1 → n3'.length = n3.length + 1 → Post γ h (((c.f1, lo n1 e1) :: (c.f2, lo n2 e2) :: (c.f3, lo n3 e3) :: (bcs c o ++ cs)).map (·.1)) γ' h' → (∀ p ∈ (c.f1, lo n1' e1') :: (c.f2, lo n2' e2') :: (c.f3, lo n3' e3') :: (bcs c o' ++ cs), h'.get? p.1 = some p.2) → R (.int (i : Nat) t) h') :
    CD G A (.call (.ref 374) ⟨[.ref c.b, .str x tx, .int 0 tr], []⟩) (Ret R) h := by
  refine call_def D T hr (st := metAt 23 8) (nm := Str.ofString "fresh_const") (ql := Str.ofString "Bank.fresh_const") (pm := (Value.str (Str.ofString "minismt.terms") 598)) (cd := .ref 373) (binds := [(Str.ofString "self", .ref c.b), (Str.ofString "name", .str x tx), (Str.ofString "s", .int 0 tr)]) (by kernel_rfl) (by kernel_rfl) (by kernel_rfl) (by decide +kernel) (locs (by kernel_rfl)) (by kernel_rfl) (by kernel_rfl) (by kernel_rfl) ?_
  intro an L h₁ en A' E hr' post S
  generalize hb : fBod (metAt 23 8) = b
  conv at hb => lhs; whnf
  subst hb
  simp only [puts, List.foldl] at S
  refine x_seq ?_; intro K1 kn1 kr1
  wtm_at "gos"
  refine m_get (f := 451) D S I (by kernel_rfl) (by kernel_rfl) ?_
  refine cw_K D (by kernel_rfl) ?_ (by rfl) (by rfl)
  wtm_at "gos"
  refine ⟨small (by simp), ?_⟩
  obtain ⟨γ2, r2, hsz, s2, g_2, S⟩ := S.madeX (tu [] 0) rfl
  rw [hsz]
  have I := I.sub s2
  have H := H.sub s2
  wtm_at "gos"
  refine m_get (f := 360) D S I (by kernel_rfl) (by kernel_rfl) ?_
  refine cw_K D (by kernel_rfl) ?_ (by rfl) (by rfl)
  wtm_at "gos"
  refine ⟨small (by simp), ?_⟩
  obtain ⟨γ3, r3, hsz, s3, g_3, S⟩ := S.madeX (tu [] 0) rfl
  rw [hsz]
  have I := I.sub s3
  have H := H.sub s3
  have g_2 := s3 _ _ g_2
  wtm_at "gos"
  refine ⟨S.kin D, ?_⟩
  refine wp_call (declare_ok D (hr'.less (by first | decide | omega) : Room A' (0 + 1)) I (S.sit (xs := [])) g_3 hz ?_)
  intro t4 n1' e1' n2' e2' n3' e3' γ4 h4 z1 z2 z3 P4 C4
  have S := S.after (xs := []) (cs := (c.f1, lo n1 e1) :: (c.f2, lo n2 e2) :: (c.f3, lo n3 e3) :: (bcs c o ++ cs)) P4 (cs' := (c.f1, lo n1' e1') :: (c.f2, lo n2' e2') :: (c.f3, lo n3' e3') :: (bcs c o ++ cs)) rfl C4
  have s4 := P4.sub
  have I := I.sub s4
  have H := H.sub s4
  have g_2 := s4 _ _ g_2
  simp only [List.nil_append] at S
  wtm_at "gos"
  refine ⟨S.kin D, ?_⟩
  refine wp_call (make_ok D (hr'.less (by first | decide | omega) : Room A' (0 + 2)) (o := o) (B := B) (cs := cs) I H (S.sit (xs := [(c.f1, lo n1' e1'), (c.f2, lo n2' e2'), (c.f3, lo n3' e3')]) (cs := bcs c o ++ cs)) (args := []) ⟨[], 0, g_2, .nil⟩ hB h0 hs ?_)
  intro i5 t5 o5 B5 γ5 h5 M5 H5 P5 C5
  have S := S.after (xs := [(c.f1, lo n1' e1'), (c.f2, lo n2' e2'), (c.f3, lo n3' e3')]) (cs := bcs c o ++ cs) P5 (cs' := bcs c o5 ++ cs) rfl C5
  refine kr1 _ _ ?_
  exact fin i5 t5 o5 B5 n1' e1' n2' e2' n3' e3' _ _ M5 H5 z1 z2 z3 (post _ _ _ _ S) fun p hp => (S.nw p hp).1

theorem b0_take : ∀ i : Nat, i < 4 → B0.take (3 + i) ++ [⟨Str.ofString "app", ci [], (i : Nat)⟩] = B0.take (3 + (i + 1)) := fun i hi => by
  match i, hi with
  | 0, _ => rfl
  | 1, _ => rfl
  | 2, _ => rfl
  | 3, _ => rfl
theorem b0_new : ∀ i : Nat, i < 4 → ∀ j : Nat, 0 < j → (B0.take (3 + i))[j]? ≠ some ⟨Str.ofString "app", ci [], (i : Nat)⟩ := by
  have key : ∀ i : Nat, i < 4 → ∀ j : Nat, j < 7 → (B0.take (3 + i))[j]? ≠ some ⟨Str.ofString "app", ci [], (i : Nat)⟩ := by decide +kernel
  intro i hi j _ e
  rcases Nat.lt_or_ge j 7 with h | h
  · exact key i hi j h e
  · have : B0.length = 7 := rfl
    rw [List.getElem?_eq_none (by rw [List.length_take]; omega)] at e; cases e
theorem store_ok {G : Gl} {A : Around} {h : Heap} {γ : Pm} {n : Nat} (D : Gd G) (hr : Room A (n + 1)) {b d : Addr} {R : Value → Heap → Prop} (T : Sit G γ [(d, dictOf [] 0)] h) (g_b : γ b = some (instObj 160 d))
    (fin : ∀ es n' γ' h', Post γ h [d] γ' h' → (∀ p ∈ [(d, dictOf es n')], h'.get? p.1 = some p.2) → R .none h') : CD G A (.call (.ref 143) ⟨[.ref b], []⟩) (Ret R) h := by
  refine call_def D T hr (st := metAt 19 0) (nm := Str.ofString "__init__") (ql := Str.ofString "ClauseStore.__init__") (pm := (Value.str (Str.ofString "minismt.clauses") 275)) (cd := .ref 142) (binds := [(Str.ofString "self", .ref b)]) (by kernel_rfl) (by kernel_rfl) (by kernel_rfl) (by decide +kernel) (locs (by kernel_rfl)) (by kernel_rfl) (by kernel_rfl) (by kernel_rfl) ?_
  intro an L h₁ en A' E hr' post S
  generalize hb : fBod (metAt 19 0) = b
  conv at hb => lhs; whnf
  subst hb
  simp only [puts, List.foldl] at S
  have hE : Es G.w [] [] := .nil
  refine x_seq ?_; intro K1 kn1 kr1
  wtm_at "gos"
  refine l_attr D S g_b (fun _ => by wtm_at "u") hE (by kernel_rfl) (by kernel_rfl) (by simp) ?_
  intro es1 en1 h1 hE S
  simp only [List.nil_append, List.cons_append] at hE
  refine kn1 _ ?_; clear kn1 kr1 K1
  refine x_seq ?_; intro K2 kn2 kr2
  wtm_at "gos"
  refine ⟨small (by simp), ?_⟩
  obtain ⟨γ2, v2, hsz, s2, g_v2, S⟩ := S.madeX (lo [] 0) rfl
  rw [hsz]
  have g_b := s2 _ _ g_b
  wtm_at "gos"
  refine l_attr D S g_b (fun _ => by wtm_at "u") hE (by kernel_rfl) (by kernel_rfl) (by simp) ?_
  intro es2 en2 h2 hE S
  simp only [List.nil_append, List.cons_append] at hE
  refine kn2 _ ?_; clear kn2 kr2 K2
  refine x_seq ?_; intro K3 kn3 kr3
  wtm_at "gos"
  refine ⟨small (by simp), ?_⟩
  obtain ⟨γ3, v3, hsz, s3, g_v3, S⟩ := S.madeX (lo [] 0) rfl
  rw [hsz]
  have g_b := s3 _ _ g_b
  wtm_at "gos"
  refine l_attr D S g_b (fun _ => by wtm_at "u") hE (by kernel_rfl) (by kernel_rfl) (by simp) ?_
  intro es3 en3 h3 hE S
  simp only [List.nil_append, List.cons_append] at hE
  refine kn3 _ ?_; clear kn3 kr3 K3
  wtm_at "gos"
  exact fin _ _ _ _ (post _ _ _ _ S) fun p hp => (S.nw p hp).1
theorem clauses_ok {G : Gl} {A : Around} {h : Heap} {γ : Pm} {n : Nat} (D : Gd G) (hr : Room A (n + 1)) {b d cb core : Addr} {R : Value → Heap → Prop} (T : Sit G γ [(d, dictOf [] 0)] h) (g_b : γ b = some (instObj 300 d))
    (fin : ∀ x t es n' γ' h', x.k = b → Es G.w es (ckv cb x) → γ' x.terms = some (lo [.int 0 t] 0) → γ' x.waiting = some (lo [] 0) → Post γ h [d] γ' h' → (∀ p ∈ [(d, dictOf es n')], h'.get? p.1 = some p.2) → R .none h') :
    CD G A (.call (.ref 178) ⟨[.ref b, .ref cb, .ref core, .none], []⟩) (Ret R) h := by
  refine call_def D T hr (st := metAt 20 0) (nm := Str.ofString "__init__") (ql := Str.ofString "BoolClauses.__init__") (pm := (Value.str (Str.ofString "minismt.clauses") 275)) (cd := .ref 177) (binds := [(Str.ofString "self", .ref b), (Str.ofString "bank", .ref cb), (Str.ofString "core", .ref core), (Str.ofString "proof", .none)]) (by kernel_rfl) (by kernel_rfl) (by kernel_rfl) (by decide +kernel) (locs (by kernel_rfl)) (by kernel_rfl) (by kernel_rfl) (by kernel_rfl) ?_
  intro an L h₁ en A' E hr' post S
  generalize hb : fBod (metAt 20 0) = b
  conv at hb => lhs; whnf
  subst hb
  simp only [puts, List.foldl] at S
  have hE : Es G.w [] [] := .nil
  refine x_seq ?_; intro K1 kn1 kr1
  wtm_at "gos"
  refine l_attr D S g_b (fun _ => by wtm_at "u") hE (by kernel_rfl) (by kernel_rfl) (by simp) ?_
  intro es1 en1 h1 hE S
  simp only [List.nil_append, List.cons_append] at hE
  refine kn1 _ ?_; clear kn1 kr1 K1
  refine x_seq ?_; intro K2 kn2 kr2
  wtm_at "gos"
  refine l_attr D S g_b (fun _ => by wtm_at "u") hE (by kernel_rfl) (by kernel_rfl) (by simp) ?_
  intro es2 en2 h2 hE S
  simp only [List.nil_append, List.cons_append] at hE
  refine kn2 _ ?_; clear kn2 kr2 K2
  refine x_seq ?_; intro K3 kn3 kr3
  wtm_at "gos"
  refine l_attr D S g_b (fun _ => by wtm_at "u") hE (by kernel_rfl) (by kernel_rfl) (by simp) ?_
  intro es3 en3 h3 hE S
  simp only [List.nil_append, List.cons_append] at hE
  refine kn3 _ ?_; clear kn3 kr3 K3
  refine x_seq ?_; intro K4 kn4 kr4
  wtm_at "gos"
  refine e_Dict0 ?_
  obtain ⟨γ4, v4, hsz, s4, g_v4, S⟩ := S.madeX emd rfl
  rw [hsz]
  have g_b := s4 _ _ g_b
  wtm_at "gos"
  refine l_attr D S g_b (fun _ => by wtm_at "u") hE (by kernel_rfl) (by kernel_rfl) (by simp) ?_
  intro es4 en4 h4 hE S
  simp only [List.nil_append, List.cons_append] at hE
  refine kn4 _ ?_; clear kn4 kr4 K4
  refine x_seq ?_; intro K5 kn5 kr5
  wtm_at "gos"
  rename_i tt
  refine ⟨small (by simp), ?_⟩
  obtain ⟨γ5, v5, hsz, s5, g_v5, S⟩ := S.madeX (lo [.int 0 tt] 0) rfl
  rw [hsz]
  have g_b := s5 _ _ g_b
  wtm_at "gos"
  refine l_attr D S g_b (fun _ => by wtm_at "u") hE (by kernel_rfl) (by kernel_rfl) (by simp) ?_
  intro es5 en5 h5 hE S
  simp only [List.nil_append, List.cons_append] at hE
  refine kn5 _ ?_; clear kn5 kr5 K5
  refine x_seq ?_; intro K6 kn6 kr6
  wtm_at "gos"
  refine e_Dict0 ?_
  obtain ⟨γ6, v6, hsz, s6, g_v6, S⟩ := S.madeX emd rfl
  rw [hsz]
  have g_b := s6 _ _ g_b
  have g_v5 := s6 _ _ g_v5
  wtm_at "gos"
  refine l_attr D S g_b (fun _ => by wtm_at "u") hE (by kernel_rfl) (by kernel_rfl) (by simp) ?_
  intro es6 en6 h6 hE S
  simp only [List.nil_append, List.cons_append] at hE
  refine kn6 _ ?_; clear kn6 kr6 K6
  refine x_seq ?_; intro K7 kn7 kr7
  wtm_at "gos"
  refine e_Dict0 ?_
  obtain ⟨γ7, v7, hsz, s7, g_v7, S⟩ := S.madeX emd rfl
  rw [hsz]
  have g_b := s7 _ _ g_b
  have g_v5 := s7 _ _ g_v5
  wtm_at "gos"
  refine l_attr D S g_b (fun _ => by wtm_at "u") hE (by kernel_rfl) (by kernel_rfl) (by simp) ?_
  intro es7 en7 h7 hE S
  simp only [List.nil_append, List.cons_append] at hE
  refine kn7 _ ?_; clear kn7 kr7 K7
  refine x_seq ?_; intro K8 kn8 kr8
  wtm_at "gos"
  refine ⟨small (by simp), ?_⟩
  obtain ⟨γ8, v8, hsz, s8, g_v8, S⟩ := S.madeX (lo [] 0) rfl
  rw [hsz]
  have g_b := s8 _ _ g_b
  have g_v5 := s8 _ _ g_v5
  wtm_at "gos"
  refine l_attr D S g_b (fun _ => by wtm_at "u") hE (by kernel_rfl) (by kernel_rfl) (by simp) ?_
  intro es8 en8 h8 hE S
  simp only [List.nil_append, List.cons_append] at hE
  refine kn8 _ ?_; clear kn8 kr8 K8
  refine x_seq ?_; intro K9 kn9 kr9
  wtm_at "gos"
  rename_i t0
  refine l_attr D S g_b (fun _ => by wtm_at "u") hE (by kernel_rfl) (by kernel_rfl) (by simp) ?_
  intro es9 en9 h9 hE S
  simp only [List.nil_append, List.cons_append] at hE
  refine kn9 _ ?_; clear kn9 kr9 K9
  wtm_at "gos"
  exact fin ⟨b, core, v4, v5, v6, v7, v8, t0⟩ tt _ _ _ _ rfl hE g_v5 g_v8 (post _ _ _ _ S) fun p hp => (S.nw p hp).1
theorem named_ok {G : Gl} {A : Around} {h : Heap} {γ : Pm} {n : Nat} (D : Gd G) (hr : Room A (n + 1)) {x : CC} {cb : Addr} {t : Tok} {cs : Led} {R : Value → Heap → Prop} (T : Sit G γ cs h) (J : Ins G γ x.k 300 (ckv cb x)) (g_t : γ x.terms = some (lo [.int 0 t] 0))
    (fin : ∀ r γ' h', γ' r = some (lo [] 0) → Same γ h cs γ' h' → R (.ref r) h') : CD G A (.call (.ref 199) ⟨[.ref x.k], []⟩) (Ret R) h := by
  refine call_def D T hr (st := metAt 20 3) (nm := Str.ofString "named_terms") (ql := Str.ofString "BoolClauses.named_terms") (pm := (Value.str (Str.ofString "minismt.clauses") 275)) (cd := .ref 198) (binds := [(Str.ofString "self", .ref x.k)]) (by kernel_rfl) (by kernel_rfl) (by kernel_rfl) (by decide +kernel) (locs (by kernel_rfl)) (by kernel_rfl) (by kernel_rfl) (by kernel_rfl) ?_
  intro an L h₁ en A' E hr' post S
  generalize hb : fBod (metAt 20 3) = b
  conv at hb => lhs; whnf
  subst hb
  simp only [puts, List.foldl] at S
  refine x_seq ?_; intro K1 kn1 kr1
  refine x_Ret ?_
  refine e_From (an := an) (L := L) (m := put (fun _ => none) (Str.ofString "self") (.ref x.k)) (k := 1) ?_
  wtm_at "gos"
  refine ⟨x.terms, _, _, _, _, rfl, S.get g_t, by simp, S, ?_⟩
  intro r γ2 h2 s2 g_r S
  refine kr1 _ _ ?_
  exact fin r _ _ g_r ⟨post _ _ _ _ S, fun p hp => (S.nw p hp).1⟩
theorem St.sit0 {G : Gl} {an : An} {γ : Pm} {L : Addr} {m : Mp} {led : Led} {h : Heap} (S : St G an γ L m led h) : Sit G γ [] h := ⟨S.base, S.on, fun p hp => (nomatch hp), .nil⟩
theorem St.post0 {G : Gl} {an : An} {γ γ' : Pm} {L : Addr} {m : Mp} {led : Led} {h h' : Heap} (S : St G an γ L m led h) (P : Post γ h [] γ' h') : St G an γ' L m led h' := by
  have := St.after (xs := led) (cs := []) (cs' := []) (by rw [List.append_nil]; exact S) P rfl (fun p hp => (nomatch hp))
  rwa [List.append_nil] at this
abbrev lawB : List Stmt := fBod (topAt 31)
theorem law_tail {G : Gl} (D : Gd G) {cs0 : Led} {A' : Around} (hr' : Room A' 30) {c : BC} {x : CC} {q1 q2 : Tok} {aR aO aC aW aN : Addr} {oW : Obj} {vC nvs : List Value} {eC eN : Nat} {ns : List Int} (hs : (c.a5 == sysModules) = false) (hsO : (aO == sysModules) = false) (hIC : IntsAre vC ns) (hlC : vC.length ≤ 63)
    (hW : oW.IsDictOf (Skd G) [(Str.ofString "bank", .ref c.b), (Str.ofString "names", .ref aN), (Str.ofString "opened", .ref aO)]) (hNN : Nats nvs [3, 4, 5, 6]) {en : Env} {L : Addr} {an : An} (E : EOk (fSco (topAt 31)) en L)
    (hcel : en.cells = [(Str.ofString "truths", L + 1 + 4), (Str.ofString "row", L + 1 + 3), (Str.ofString "world", L + 1 + 2), (Str.ofString "bank", L + 1 + 1), (Str.ofString "rope", L + 1)]) {oc_rope oc_bank oc_world : Obj} (d_rope : oc_rope.data = .cell (some (.ref aR))) (d_bank : oc_bank.data = .cell (some (.ref c.b))) (d_world : oc_world.data = .cell (some (.ref aW))) {tt : Tok}
    {h : Heap} {γ : Pm} {m : Mp} {o : BO} {B : List TKey} {oR oO oc_row oc_truths : Obj} {vr vt : Option Value} {kvs : List (Int × Value)} {k : Int} (d_row : oc_row.data = .cell vr) (d_truths : oc_truths.data = .cell vt) (m_clauses : m (Str.ofString "clauses") = some (.ref x.k)) (J : Ins G γ x.k 300 (ckv c.b x)) (I : Ins G γ c.b 622 (bkv c (bful q1 q2))) (H : BR G γ o B) (hO : OpenedR G γ oO B kvs) (hB0 : B0 <+: B) (hRp : RopeO G oR aC k) (hk0 : 0 ≤ k)
    (g_C : γ aC = some (lo vC eC)) (g_W : γ aW = some oW) (g_N : γ aN = some (lo nvs eN)) (g_rope : γ (L + 1) = some oc_rope) (g_bank : γ (L + 1 + 1) = some oc_bank) (g_world : γ (L + 1 + 2) = some oc_world) (g_terms : γ x.terms = some (lo [.int 0 tt] 0)) (g_wait : γ x.waiting = some (lo [] 0)) (hB : B.length ≤ 500000) {Q : Flow → Heap → Prop} (S : St G an γ L m ((L + 1 + 3, oc_row) :: (L + 1 + 4, oc_truths) :: (aR, oR) :: (aO, oO) :: (bcs c o ++ cs0)) h)
    (fin : ∀ γ' m' led' h', St G an γ' L m' led' h' → Q (.ret (.bool true)) h') : WP G A' (execs (lawB.drop 4) en) Q h := by
  generalize hb : lawB.drop 4 = b
  conv at hb => lhs; whnf
  subst hb
  obtain ⟨tn3, hn3⟩ := hNN.got (i := 3) (n := 6) rfl
  refine x_seq ?_; intro K1 kn1 kr1
  refine x_Tup (swapped_of E fun e => by kernel_rfl) (by rfl) ?_
  wtm_at "gc"
  refine n_glob (v := .ref 643) (by assumption) (by assumption) (by assumption) (ns__law_chain _) ?_ (by kernel_rfl) (by kernel_rfl)
  refine cw_K D (by kernel_rfl) ?_ (by rfl) (by rfl)
  wtm_at "gc"
  refine ⟨S.kin D, ?_⟩
  refine wp_call (chain_ok D (hr'.less (by first | decide | omega) : Room A' (0 + 5)) hs hIC hlC hW hNN I H hB0 (by first | decide | omega) hRp hk0 g_C g_W g_N (S.sit (xs := [(L + 1 + 3, oc_row), (L + 1 + 4, oc_truths)]) (cs := (aR, oR) :: (aO, oO) :: (bcs c o ++ cs0))) ?_)
  intro r t aP e0 e ps Fs i N oR2 o2 B2 γ2 h2 g_r g_P hps hFl hLf hFlat hN H2 hpre hlen P2 C2
  have S := S.after (xs := [(L + 1 + 3, oc_row), (L + 1 + 4, oc_truths)]) (cs := (aR, oR) :: (aO, oO) :: (bcs c o ++ cs0)) P2 (cs' := (aR, oR2) :: (aO, oO) :: (bcs c o2 ++ cs0)) rfl C2
  simp only [List.cons_append, List.nil_append] at S
  have s2 := P2.sub
  have H := H2
  have J := J.sub s2
  have I := I.sub s2
  have g_C := s2 _ _ g_C
  have g_W := s2 _ _ g_W
  have g_N := s2 _ _ g_N
  have g_rope := s2 _ _ g_rope
  have g_bank := s2 _ _ g_bank
  have g_world := s2 _ _ g_world
  have g_terms := s2 _ _ g_terms
  have g_wait := s2 _ _ g_wait
  refine as_tup hr'.h S (S.get g_r) (by rfl) (by rfl) ?_
  intro h3 S
  refine io_cons (as_name ?_)
  refine n_store (by assumption) E ?_ (by kernel_rfl); intro h4 S
  refine io_cons (as_name ?_)
  refine n_store (by assumption) E ?_ (by kernel_rfl); intro h5 S
  refine io_nil ?_
  refine kn1 _ ?_; clear kn1 kr1 K1
  refine x_seq ?_; intro K2 kn2 kr2
  refine x_If ?_
  refine t_not ?_
  refine t_plain ?_ (by rfl)
  wtm_at "gc"
  refine n_glob (v := .ref 650) (by assumption) (by assumption) (by assumption) (ns__law_are_told _) ?_ (by kernel_rfl) (by kernel_rfl)
  refine cw_K D (by kernel_rfl) ?_ (by rfl) (by rfl)
  wtm_at "gc"
  refine i_list (S.get g_N) (by first | decide | omega) (by first | decide | omega) (v := .int (6 : Nat) tn3) (by simpa using hn3) ?_ sub_const
  wtm_at "gc"
  refine ⟨small (by simp), ?_⟩
  obtain ⟨γ6, r6, hsz, s6, g_6, S⟩ := S.madeX (lo [.int (i : Nat) t, .int (6 : Nat) tn3] 0) rfl
  rw [hsz]
  have J := J.sub s6
  have I := I.sub s6
  have H := H.sub s6
  have g_C := s6 _ _ g_C
  have g_W := s6 _ _ g_W
  have g_N := s6 _ _ g_N
  have g_rope := s6 _ _ g_rope
  have g_bank := s6 _ _ g_bank
  have g_world := s6 _ _ g_world
  have g_terms := s6 _ _ g_terms
  have g_wait := s6 _ _ g_wait
  have g_P := s6 _ _ g_P
  wtm_at "gc"
  refine i_list (S.get g_N) (by first | decide | omega) (by first | decide | omega) (v := .int (6 : Nat) tn3) (by simpa using hn3) ?_ sub_const
  wtm_at "gc"
  refine ⟨small (by simp), ?_⟩
  obtain ⟨γ7, r7, hsz, s7, g_7, S⟩ := S.madeX (lo [.int (6 : Nat) tn3] 0) rfl
  rw [hsz]
  have J := J.sub s7
  have I := I.sub s7
  have H := H.sub s7
  have g_C := s7 _ _ g_C
  have g_W := s7 _ _ g_W
  have g_N := s7 _ _ g_N
  have g_rope := s7 _ _ g_rope
  have g_bank := s7 _ _ g_bank
  have g_world := s7 _ _ g_world
  have g_terms := s7 _ _ g_terms
  have g_wait := s7 _ _ g_wait
  have g_P := s7 _ _ g_P
  have g_6 := s7 _ _ g_6
  wtm_at "gc"
  have hpl := hps.len
  refine o_adds S (S.get g_P) (S.get g_7) (by simp; omega) ?_
  intro r8 γ8 h8 s8 g_8 S
  have J := J.sub s8
  have I := I.sub s8
  have H := H.sub s8
  have g_C := s8 _ _ g_C
  have g_W := s8 _ _ g_W
  have g_N := s8 _ _ g_N
  have g_rope := s8 _ _ g_rope
  have g_bank := s8 _ _ g_bank
  have g_world := s8 _ _ g_world
  have g_terms := s8 _ _ g_terms
  have g_wait := s8 _ _ g_wait
  have g_6 := s8 _ _ g_6
  wtm_at "gc"
  refine ⟨S.kin D, ?_⟩
  have h6 : B2[6]? = some ⟨Str.ofString "app", ci [], (3 : Nat)⟩ := B0.names (hB0.trans hpre) 3 (by first | decide | omega)
  have hL6 : Lf B2 [6] := fun p hp => by
    rw [List.mem_singleton] at hp; subst hp
    exact ⟨_, h6, sne (by decide)⟩
  have hF6 : Flat B2 ([i] ++ [6]) (Fs ++ [6]) (N + 1) := hFlat.app hL6.flat
  refine wp_call (told_ok D (hr'.less (by first | decide | omega) : Room A' (0 + 4)) J I H (S.sit (xs := [(L + 1 + 3, oc_row), (L + 1 + 4, oc_truths)] ++ [(aR, oR2), (aO, oO)]) (cs := bcs c o2 ++ cs0)) (by first | decide | omega) g_6 (.cons (.cons .nil)) g_8 (hps.append (.cons .nil)) hF6 (by first | decide | omega) (hLf.app hL6) (by simp; omega) ?_)
  intro γ9 h9 sm9
  have S := S.same (xs := [(L + 1 + 3, oc_row), (L + 1 + 4, oc_truths)] ++ [(aR, oR2), (aO, oO)]) (cs := bcs c o2 ++ cs0) sm9
  simp only [List.cons_append, List.nil_append] at S
  have s9 := sm9.1.sub
  have J := J.sub s9
  have I := I.sub s9
  have H := H.sub s9
  have g_C := s9 _ _ g_C
  have g_W := s9 _ _ g_W
  have g_N := s9 _ _ g_N
  have g_rope := s9 _ _ g_rope
  have g_bank := s9 _ _ g_bank
  have g_world := s9 _ _ g_world
  have g_terms := s9 _ _ g_terms
  have g_wait := s9 _ _ g_wait
  wtm_at "gc"
  rw [if_neg (by decide)]
  wtm_at "gc"
  refine kn2 _ ?_; clear kn2 kr2 K2
  refine x_seq ?_; intro K3 kn3 kr3
  refine x_Ret ?_
  refine e_and ?_
  wtm_at "gc"
  refine m_get (f := 297) D S J (by kernel_rfl) (by kernel_rfl) ?_
  refine cw_K D (by kernel_rfl) ?_ (by rfl) (by rfl)
  wtm_at "gc"
  refine ⟨small (by simp), ?_⟩
  obtain ⟨γ10, r10, hsz, s10, g_10, S⟩ := S.madeX (lo [] 0) rfl
  rw [hsz]
  have J := J.sub s10
  have I := I.sub s10
  have H := H.sub s10
  have g_C := s10 _ _ g_C
  have g_W := s10 _ _ g_W
  have g_N := s10 _ _ g_N
  have g_rope := s10 _ _ g_rope
  have g_bank := s10 _ _ g_bank
  have g_world := s10 _ _ g_world
  have g_terms := s10 _ _ g_terms
  have g_wait := s10 _ _ g_wait
  wtm_at "gc"
  refine ⟨S.kin D, ?_⟩
  refine wp_call (alternatives_ok D (hr'.less (by first | decide | omega) : Room A' (0 + 3)) J I H (S.sit (xs := [(L + 1 + 3, oc_row), (L + 1 + 4, oc_truths)] ++ [(aR, oR2), (aO, oO)]) (cs := bcs c o2 ++ cs0)) (by first | decide | omega) ⟨0, .inl g_10⟩ .nil .nil (by first | decide | omega) ?_)
  intro r11 us11 e11 γ11 h11 g_11 hn11 sm11
  have S := S.same (xs := [(L + 1 + 3, oc_row), (L + 1 + 4, oc_truths)] ++ [(aR, oR2), (aO, oO)]) (cs := bcs c o2 ++ cs0) sm11
  simp only [List.cons_append, List.nil_append] at S
  have s11 := sm11.1.sub
  have J := J.sub s11
  have I := I.sub s11
  have H := H.sub s11
  have g_C := s11 _ _ g_C
  have g_W := s11 _ _ g_W
  have g_N := s11 _ _ g_N
  have g_rope := s11 _ _ g_rope
  have g_bank := s11 _ _ g_bank
  have g_world := s11 _ _ g_world
  have g_terms := s11 _ _ g_terms
  have g_wait := s11 _ _ g_wait
  wtm_at "gc"
  refine ⟨small (by simp), ?_⟩
  obtain ⟨γ12, r12, hsz, s12, g_12, S⟩ := S.madeX (lo [] 0) rfl
  rw [hsz]
  have J := J.sub s12
  have I := I.sub s12
  have H := H.sub s12
  have g_C := s12 _ _ g_C
  have g_W := s12 _ _ g_W
  have g_N := s12 _ _ g_N
  have g_rope := s12 _ _ g_rope
  have g_bank := s12 _ _ g_bank
  have g_world := s12 _ _ g_world
  have g_terms := s12 _ _ g_terms
  have g_wait := s12 _ _ g_wait
  have g_11 := s12 _ _ g_11
  refine eq_ints hr' (S.get g_11) (S.get g_12) hn11.ints (Nats.ints .nil) ?_
  rw [decide_eq_true rfl]
  wtm_at "gc"
  rw [if_pos rfl]
  refine e_and ?_
  wtm_at "gc"
  refine m_get (f := 199) D S J (by kernel_rfl) (by kernel_rfl) ?_
  refine cw_K0 (S.kin D) (by kernel_rfl) ?_
  refine wp_call (named_ok D (hr'.less (by first | decide | omega) : Room A' (0 + 1)) S.sit0 J g_terms ?_)
  intro r13 γ13 h13 g_13 sm13
  have S := S.post0 sm13.1
  have s13 := sm13.1.sub
  have J := J.sub s13
  have I := I.sub s13
  have H := H.sub s13
  have g_C := s13 _ _ g_C
  have g_W := s13 _ _ g_W
  have g_N := s13 _ _ g_N
  have g_rope := s13 _ _ g_rope
  have g_bank := s13 _ _ g_bank
  have g_world := s13 _ _ g_world
  have g_terms := s13 _ _ g_terms
  have g_wait := s13 _ _ g_wait
  wtm_at "gc"
  refine ⟨small (by simp), ?_⟩
  obtain ⟨γ14, r14, hsz, s14, g_14, S⟩ := S.madeX (lo [] 0) rfl
  rw [hsz]
  have J := J.sub s14
  have I := I.sub s14
  have H := H.sub s14
  have g_C := s14 _ _ g_C
  have g_W := s14 _ _ g_W
  have g_N := s14 _ _ g_N
  have g_rope := s14 _ _ g_rope
  have g_bank := s14 _ _ g_bank
  have g_world := s14 _ _ g_world
  have g_terms := s14 _ _ g_terms
  have g_wait := s14 _ _ g_wait
  have g_13 := s14 _ _ g_13
  refine eq_ints hr' (S.get g_13) (S.get g_14) .nil .nil ?_
  rw [decide_eq_true rfl]
  wtm_at "gc"
  rw [if_pos rfl]
  refine e_one ?_
  wtm_at "gc"
  refine ⟨small (by simp), ?_⟩
  obtain ⟨γ15, r15, hsz, s15, g_15, S⟩ := S.madeX (lo [] 0) rfl
  rw [hsz]
  have J := J.sub s15
  have I := I.sub s15
  have H := H.sub s15
  have g_C := s15 _ _ g_C
  have g_W := s15 _ _ g_W
  have g_N := s15 _ _ g_N
  have g_rope := s15 _ _ g_rope
  have g_bank := s15 _ _ g_bank
  have g_world := s15 _ _ g_world
  have g_terms := s15 _ _ g_terms
  have g_wait := s15 _ _ g_wait
  refine eq_ints hr' (S.get g_wait) (S.get g_15) .nil .nil ?_
  rw [decide_eq_true rfl]
  refine kr3 _ _ ?_
  exact fin _ _ _ _ S
theorem vals_of {B : List TKey} {d : Nat} (row : Nat) : ∀ {F : List Nat}, (∀ p ∈ F, ∃ g, Rep B d p [p] g) → ∃ vals : List Nat, vals.length = F.length ∧ ∀ (j p : Nat), F[j]? = some p → ∃ g, Rep B d p [p] g ∧ vals[j]? = some (g row)
  | [], _ => ⟨[], rfl, fun j p e => by simp at e⟩
  | q :: F, h => by
    obtain ⟨g, x⟩ := h q (by simp)
    obtain ⟨vals, h1, h2⟩ := vals_of row (F := F) fun p hp => h p (by simp [hp])
    refine ⟨g row :: vals, by simp [h1], fun j p e => ?_⟩
    cases j with
    | zero => simp at e; subst e; exact ⟨g, x, rfl⟩
    | succ j => simpa using h2 j p (by simpa using e)
theorem told_all {B : List TKey} {d : Nat} {ps : List Pt} (hp : ∀ p ∈ ps, PtR B d p) : ∀ p ∈ (ps.map (·.F)).flatten, ∃ g, Rep B d p [p] g := fun p h => by
  obtain ⟨F, hF, h⟩ := List.mem_flatten.mp h
  obtain ⟨q, hq, rfl⟩ := List.mem_map.mp hF
  obtain ⟨g, x, -⟩ := (Rep.told (hp q hq)).1 p h
  exact ⟨g, x⟩
theorem rows_eq {B : List TKey} {d row : Nat} {ps : List Pt} {vals : List Nat} (hp : ∀ p ∈ ps, PtR B d p) (hl : vals.length = (ps.map (·.F)).flatten.length) (hv : ∀ (j p : Nat), (ps.map (·.F)).flatten[j]? = some p → ∃ g, Rep B d p [p] g ∧ vals[j]? = some (g row)) :
    1 ∈ vals ↔ 1 ∈ ps.map (fun p => p.f row) := by
  constructor
  · intro h
    obtain ⟨j, hj⟩ := List.getElem?_of_mem h
    have hlt : j < (ps.map (·.F)).flatten.length := by
      rw [← hl]
      by_cases q : j < vals.length
      · exact q
      · rw [List.getElem?_eq_none (by first | decide | omega)] at hj; cases hj
    obtain ⟨g, x, e⟩ := hv j _ (List.getElem?_eq_getElem hlt)
    rw [e] at hj
    have hg : g row = 1 := Option.some.inj hj
    obtain ⟨F, hF, hm⟩ := List.mem_flatten.mp (List.getElem_mem hlt)
    obtain ⟨q, hq, rfl⟩ := List.mem_map.mp hF
    exact List.mem_map.mpr ⟨q, hq, ((Rep.told (hp q hq)).2 row).mpr ⟨_, hm, g, x, hg⟩⟩
  · intro h
    obtain ⟨q, hq, hf⟩ := List.mem_map.mp h
    obtain ⟨p, hm, g, x, hg⟩ := ((Rep.told (hp q hq)).2 row).mp hf
    have hmem : p ∈ (ps.map (·.F)).flatten := List.mem_flatten.mpr ⟨q.F, List.mem_map.mpr ⟨q, hq, rfl⟩, hm⟩
    obtain ⟨j, hj⟩ := List.getElem?_of_mem hmem
    obtain ⟨g', x', e⟩ := hv j p hj
    have : g = g' := (x.uni x').2
    subst this
    rw [hg] at e
    exact List.mem_of_getElem? e
theorem dec_ci {vals ws : List Nat} (h : 1 ∈ vals ↔ 1 ∈ ws) : decide ((1 : Int) ∈ ci vals) = decide ((1 : Int) ∈ ci ws) := by
  have key : ∀ {vs : List Nat}, (1 : Int) ∈ ci vs ↔ 1 ∈ vs := fun {vs} => by
    rw [ci_mem]
    constructor
    · rintro ⟨n, h, e⟩
      have : n = 1 := by omega
      subst this; exact h
    · exact fun h => ⟨1, h, rfl⟩
  rw [decide_eq_decide, key, key]; exact h

def loopB : List Stmt := match (fBod (topAt 31)).drop 3 with | .For _ _ b _ _ :: _ => b | _ => []
theorem law_rows {G : Gl} (D : Gd G) {cs0 : Led} {A' : Around} (hr' : Room A' 30) {c : BC} {x : CC} {q1 q2 : Tok} {aR aO aC aW aN : Addr} {oW : Obj} {vC nvs : List Value} {eC eN : Nat} {ns : List Int} (hs : (c.a5 == sysModules) = false) (hsO : (aO == sysModules) = false) (hIC : IntsAre vC ns) (hlC : vC.length ≤ 63)
    (hW : oW.IsDictOf (Skd G) [(Str.ofString "bank", .ref c.b), (Str.ofString "names", .ref aN), (Str.ofString "opened", .ref aO)]) (hNN : Nats nvs [3, 4, 5, 6]) {en : Env} {L : Addr} {an : An} (E : EOk (fSco (topAt 31)) en L)
    (hcel : en.cells = [(Str.ofString "truths", L + 1 + 4), (Str.ofString "row", L + 1 + 3), (Str.ofString "world", L + 1 + 2), (Str.ofString "bank", L + 1 + 1), (Str.ofString "rope", L + 1)]) {oc_rope oc_bank oc_world : Obj} (d_rope : oc_rope.data = .cell (some (.ref aR))) (d_bank : oc_bank.data = .cell (some (.ref c.b))) (d_world : oc_world.data = .cell (some (.ref aW))) {tt : Tok}
    {h : Heap} {γ : Pm} {m : Mp} {o : BO} {B : List TKey} {oR oO oc_row oc_truths : Obj} {vr : Option Value} {aT : Addr} {kvs : List (Int × Value)} {k : Int} (d_row : oc_row.data = .cell vr) (d_truths : oc_truths.data = .cell (some (.ref aT))) (m_clauses : m (Str.ofString "clauses") = some (.ref x.k)) (J : Ins G γ x.k 300 (ckv c.b x)) (I : Ins G γ c.b 622 (bkv c (bful q1 q2))) (H : BR G γ o B) (hO : OpenedR G γ oO B kvs) (hB0 : B0 <+: B) (hRp : RopeO G oR aC k) (hk0 : 0 ≤ k)
    (g_C : γ aC = some (lo vC eC)) (g_W : γ aW = some oW) (g_N : γ aN = some (lo nvs eN)) (g_rope : γ (L + 1) = some oc_rope) (g_bank : γ (L + 1 + 1) = some oc_bank) (g_world : γ (L + 1 + 2) = some oc_world) (g_terms : γ x.terms = some (lo [.int 0 tt] 0)) (g_wait : γ x.waiting = some (lo [] 0)) (hB : B.length ≤ 500000) {oT : Obj} {kvs2 : List (Int × Value)} (g_T : γ aT = some oT) (hT : oT.IsDictOf (Ikd G) kvs2) (hsT : (aT == sysModules) = false) (hNm : NmCols γ kvs2)
    {ps : List Pt} {aD aS : Addr} {us ys : List Value} {eD eS : Nat} (m_due : m (Str.ofString "due") = some (.ref aD)) (g_D : γ aD = some (lo us eD)) (hus : Nats us (ps.map (·.F)).flatten) (m_some : m (Str.ofString "some") = some (.ref aS)) (g_S : γ aS = some (lo ys eS)) (hps : PartsV γ ys ps) (hpr : ∀ p ∈ ps, PtR B 2 p) (hpl : ps.length ≤ 3) {Q : Flow → Heap → Prop} (S : St G an γ L m ((L + 1 + 3, oc_row) :: (L + 1 + 4, oc_truths) :: (aR, oR) :: (aO, oO) :: (bcs c o ++ cs0)) h)
    (fin : ∀ γ' m' oc_row' vr' h', Sub γ γ' → oc_row'.data = .cell vr' → m' (Str.ofString "clauses") = some (.ref x.k) → St G an γ' L m' ((L + 1 + 3, oc_row') :: (L + 1 + 4, oc_truths) :: (aR, oR) :: (aO, oO) :: (bcs c o ++ cs0)) h' → Q .next h') : WP G A' (execs (loopB.drop 5) en) Q h := by
  generalize hb : loopB.drop 5 = b
  conv at hb => lhs; whnf
  subst hb
  have hFl := flat_len hpr
  have hyl := hps.len
  have h27 : ps.length * 3 ^ 2 ≤ 3 * 9 := Nat.mul_le_mul hpl (by decide)
  refine x_seq ?_; intro K1 kn1 kr1
  refine x_For ?_ (by intro _; rfl)
  wtm_at "gc"
  refine n_bi (v := .type "range") (by assumption) (by assumption) (by assumption) (ns_range _) (by kernel_rfl) (sne (by decide)) ?_ (by kernel_rfl) (by kernel_rfl)
  refine cw_B (by rfl) ?_ (by rfl) (by rfl)
  wtm_at "gc"
  refine c_range (n := 16) S ?_
  intro r2 γ2 h2 ta tb tc s2 hr2 S
  refine it_range S hr2 (by first | decide | omega) ?_
  intro I3 oI3 h3 ok3 S
  have J := J.sub s2
  have I := I.sub s2
  have H := H.sub s2
  have g_C := s2 _ _ g_C
  have g_W := s2 _ _ g_W
  have g_N := s2 _ _ g_N
  have g_rope := s2 _ _ g_rope
  have g_bank := s2 _ _ g_bank
  have g_world := s2 _ _ g_world
  have g_terms := s2 _ _ g_terms
  have g_wait := s2 _ _ g_wait
  have g_T := s2 _ _ g_T
  have g_D := s2 _ _ g_D
  have g_S := s2 _ _ g_S
  have hps := hps.sub s2
  have hNm := hNm.sub s2
  refine cd_forC (K := L + 1 + 3) E (It.range hr'.h) ok3 S d_row (fun i γ' m' led' => led' = (L + 1 + 4, oc_truths) :: (aR, oR) :: (aO, oO) :: (bcs c o ++ cs0) ∧ m' (Str.ofString "due") = some (.ref aD) ∧ m' (Str.ofString "some") = some (.ref aS) ∧ m' (Str.ofString "clauses") = some (.ref x.k)) ⟨rfl, m_due, m_some, m_clauses⟩ (by rw [hcel]; wtm_at "lc") ?_ ?_ (by kernel_rfl)
  · rintro i v γ4 m4 led4 oI4 oc_row4 h4 hi ⟨tv, rfl⟩ s4 ⟨rfl, m_due, m_some, m_clauses⟩ d_row4 S
    have J := J.sub s4
    have I := I.sub s4
    have H := H.sub s4
    have g_C := s4 _ _ g_C
    have g_W := s4 _ _ g_W
    have g_N := s4 _ _ g_N
    have g_rope := s4 _ _ g_rope
    have g_bank := s4 _ _ g_bank
    have g_world := s4 _ _ g_world
    have g_terms := s4 _ _ g_terms
    have g_wait := s4 _ _ g_wait
    have g_T := s4 _ _ g_T
    have g_D := s4 _ _ g_D
    have g_S := s4 _ _ g_S
    have hps := hps.sub s4
    have hNm := hNm.sub s4
    have H := H
    refine x_seq ?_; intro K5 kn5 kr5
    refine x_Assign ?_ (swaps_of E fun e => by kernel_rfl)
    wtm_at "gc"
    refine e_LC ?_ (by intro _; rfl) (cl := [(Str.ofString "truths", L + 1 + 4), (Str.ofString "row", L + 1 + 3), (Str.ofString "bank", L + 1 + 1)]) (by rw [hcel]; kernel_rfl) (by kernel_rfl)
    wtm_at "gc"
    refine it_list S (S.get g_D) ?_
    intro I6 oI6 h6 ok6 S6
    obtain ⟨vals, hvl, hvs⟩ := vals_of i (told_all hpr)
    have hul := hus.len
    refine lcg (cl := [(Str.ofString "truths", L + 1 + 4), (Str.ofString "row", L + 1 + 3), (Str.ofString "bank", L + 1 + 1)]) (fun j zs _ led => Nats zs (vals.take j) ∧ led = (I3, oI4) :: (L + 1 + 3, oc_row4) :: (L + 1 + 4, oc_truths) :: (aR, oR) :: (aO, oO) :: (bcs c o ++ cs0)) E (It.list hr'.h g_D) ok6 S6 ⟨.nil, rfl⟩ (by first | decide | omega) (by rw [hcel]; kernel_rfl) (by kernel_rfl) ?_ ?_
    · rintro j zs v γ7 led7 h7 C mC I7 oI7 oL7 D7 k7 en7 hj hv hyl7 s7 ⟨hzs, rfl⟩ E7 hce7 S7
      obtain ⟨p, tp, hp, rfl⟩ := hus.get hv
      obtain ⟨g, xg, hg⟩ := hvs j p hp
      have g_bank := s7 _ _ g_bank
      have hNm := hNm.sub s7
      have I := I.sub s7
      have H := H.sub s7
      have g_T := s7 _ _ g_T
      wtm_at "gc"
      refine n_glob (v := .ref 655) (by assumption) (by assumption) (by assumption) (ns__law_truth _) ?_ (by kernel_rfl) (by kernel_rfl)
      refine cw_K D (by kernel_rfl) ?_ (by rfl) (by rfl)
      wtm_at "gc"
      refine ⟨S7.kin D, ?_⟩
      refine wp_call (truth_ok D (by first | decide | omega) hT hsT (B0.names hB0) 2 xg (hr'.less (by first | decide | omega) : Room A' (0 + 3 * 2 + 5)) I H (S7.sit (xs := [(I7, _), (L, _), (D7, _), (I3, _), (L + 1 + 3, _), (L + 1 + 4, _), (aR, _), (aO, _)]) (cs := bcs c o ++ cs0)) g_T hNm hi ?_)
      intro t8 γ8 h8 sm8
      have S8 := S7.same (xs := [(I7, _), (L, _), (D7, _), (I3, _), (L + 1 + 3, _), (L + 1 + 4, _), (aR, _), (aO, _)]) (cs := bcs c o ++ cs0) sm8
      exact ⟨γ8, _, _, sm8.1.sub, ⟨by rw [List.take_add_one, hg]; exact hzs.append (.cons .nil), rfl⟩, S8⟩
    rintro D9 zs k9 γ9 γ10 led9 h9 hyl9 s9 s10 ⟨hzs, rfl⟩ g_D9 S
    rw [hul, ← hvl, List.take_length] at hzs
    have s910 := s9.trans s10
    have J := J.sub s910
    have I := I.sub s910
    have H := H.sub s910
    have g_C := s910 _ _ g_C
    have g_W := s910 _ _ g_W
    have g_N := s910 _ _ g_N
    have g_rope := s910 _ _ g_rope
    have g_bank := s910 _ _ g_bank
    have g_world := s910 _ _ g_world
    have g_terms := s910 _ _ g_terms
    have g_wait := s910 _ _ g_wait
    have g_T := s910 _ _ g_T
    have g_D := s910 _ _ g_D
    have g_S := s910 _ _ g_S
    have hps := hps.sub s910
    have hNm := hNm.sub s910
    refine inI_L (S.get g_D9) hzs.ints ?_
    refine n_store (by assumption) E ?_ (by kernel_rfl); intro h11 S
    refine kn5 _ ?_; clear kn5 kr5 K5
    refine x_seq ?_; intro K12 kn12 kr12
    wtm_at "gc"
    refine e_LC ?_ (by intro _; rfl) (cl := [(Str.ofString "row", L + 1 + 3)]) (by rw [hcel]; kernel_rfl) (by kernel_rfl)
    wtm_at "gc"
    refine it_list S (S.get g_S) ?_
    intro I13 oI13 h13 ok13 S13
    refine lcg (cl := [(Str.ofString "row", L + 1 + 3)]) (fun j zs _ led => Nats zs ((ps.map fun p => p.f i).take j) ∧ led = (I3, oI4) :: (L + 1 + 3, oc_row4) :: (L + 1 + 4, oc_truths) :: (aR, oR) :: (aO, oO) :: (bcs c o ++ cs0)) E (It.list hr'.h g_S) ok13 S13 ⟨.nil, rfl⟩ (by first | decide | omega) (by rw [hcel]; kernel_rfl) (by kernel_rfl) ?_ ?_
    · rintro j zs v γ14 led14 h14 C mC I14 oI14 oL14 D14 k14 en14 hj hv hyl14 s14 ⟨hzs2, rfl⟩ E14 hce14 S14
      obtain ⟨p, hp, r, t, a1, a2, e0, vs1, e1, vs2, e2, rfl, hr1, hr2, hr3, hr4, hr5⟩ := hps.get hv
      wtm_at "gc"
      refine i_tup (S14.get (s14 _ _ hr1)) (by first | decide | omega) (by first | decide | omega) (j := 2) (by rfl) rfl ?_ sub_const
      wtm_at "gc"
      obtain ⟨tw, hw⟩ := hr5.got (col_at hi)
      refine i_list (S14.get (s14 _ _ hr4)) (by first | decide | omega) (by first | decide | omega) (by simpa using hw) ?_ sub_name
      exact ⟨γ14, _, _, Sub.refl _, ⟨by rw [List.take_add_one, List.getElem?_map, hp]; exact hzs2.append (.cons .nil), rfl⟩, S14⟩
    rintro D15 zs2 k15 γ15 γ16 led15 h15 hyl15 s15 s16 ⟨hzs2, rfl⟩ g_D15 S
    rw [List.take_of_length_le (by rw [List.length_map]; omega)] at hzs2
    refine inI_L (S.get g_D15) hzs2.ints ?_
    refine o_neb ?_
    rw [dec_ci (rows_eq hpr hvl hvs), bne_self_eq_false]
    wtm_at "gc"
    rw [if_neg (by decide)]
    wtm_at "gc"
    refine kn12 _ ?_; clear kn12 kr12 K12
    wtm_at "gc"
    exact ⟨γ16, _, _, (s9.trans s10).trans (s15.trans s16), ⟨rfl, by wtm_at "lk", by wtm_at "lk", by wtm_at "lk"⟩, S⟩
  · rintro γ4 m4 led4 oc_row4 vr4 h4 s4 ⟨rfl, m_due, m_some, m_clauses⟩ d_row4 S
    refine kn1 _ ?_; clear kn1 kr1 K1
    wtm_at "gc"
    exact fin γ4 m4 oc_row4 vr4 h4 (s2.trans s4) d_row4 m_clauses S
theorem names_at : ∀ i : Nat, i < 4 → ([3, 4, 5, 6] : List Nat)[i]? = some (3 + i) := fun i hi => by
  match i, hi with
  | 0, _ => rfl
  | 1, _ => rfl
  | 2, _ => rfl
  | 3, _ => rfl
def PairsT (γ : Pm) (ys : List Value) (n : Nat) : Prop := ys.length = n ∧ ∀ j, j < n → ∃ p tk c vs e0 e, ys[j]? = some (.ref p) ∧ γ p = some (tu [.int (3 + j : Nat) tk, .ref c] e0) ∧ γ c = some (lo vs e) ∧ Nats vs (col fun r => r / 2 ^ j % 2)
theorem PairsT.sub {γ γ' : Pm} {ys : List Value} {n : Nat} (s : Sub γ γ') (x : PairsT γ ys n) : PairsT γ' ys n := ⟨x.1, fun j h => let ⟨p, tk, c, vs, e0, e, a, b, d, z⟩ := x.2 j h; ⟨p, tk, c, vs, e0, e, a, s _ _ b, s _ _ d, z⟩⟩
theorem PairsT.snoc {γ : Pm} {ys : List Value} {n : Nat} {p : Addr} {tk : Tok} {c : Addr} {vs : List Value} {e0 e : Nat} (x : PairsT γ ys n) (h1 : γ p = some (tu [.int (3 + n : Nat) tk, .ref c] e0)) (h2 : γ c = some (lo vs e)) (z : Nats vs (col fun r => r / 2 ^ n % 2)) : PairsT γ (ys ++ [.ref p]) (n + 1) := by
  refine ⟨by simp [x.1], fun j hj => ?_⟩
  by_cases q : j < n
  · obtain ⟨p', tk', c', vs', e0', e', a, b, d, w⟩ := x.2 j q
    exact ⟨p', tk', c', vs', e0', e', by rw [List.getElem?_append_left (by rw [x.1]; exact q)]; exact a, b, d, w⟩
  · have : j = n := by omega
    subst this
    exact ⟨p, tk, c, vs, e0, e, by rw [List.getElem?_append_right (by rw [x.1]; exact Nat.le_refl _), x.1]; simp, h1, h2, z⟩
theorem PairsT.dict {γ : Pm} {ys : List Value} (x : PairsT γ ys 4) : ∃ pairs : List (Int × Value), pairs.length = ys.length ∧ (∀ (i : Nat) (v : Value), ys[i]? = some v → ∃ (t : Addr) (k : Int) (tk : Tok) (x : Value) (e : Nat), v = Value.ref t ∧ γ t = some (tu [.int k tk, x] e) ∧ pairs[i]? = some (k, x)) ∧
    NmCols γ (pairs.foldl (fun k p => stored k p.1 p.2) []) := by
  obtain ⟨hl, hx⟩ := x
  obtain ⟨p0, t0, c0, vs0, e0, f0, a0, b0, d0, z0⟩ := hx 0 (by first | decide | omega)
  obtain ⟨p1, t1, c1, vs1, e1, f1, a1, b1, d1, z1⟩ := hx 1 (by first | decide | omega)
  obtain ⟨p2, t2, c2, vs2, e2, f2, a2, b2, d2, z2⟩ := hx 2 (by first | decide | omega)
  obtain ⟨p3, t3, c3, vs3, e3, f3, a3, b3, d3, z3⟩ := hx 3 (by first | decide | omega)
  refine ⟨[(3, .ref c0), (4, .ref c1), (5, .ref c2), (6, .ref c3)], by rw [hl]; rfl, fun i v hv => ?_, ?_, ?_⟩
  · have hi : i < 4 := by
      rw [← hl]
      by_cases q : i < ys.length
      · exact q
      · rw [List.getElem?_eq_none (by first | decide | omega)] at hv; cases hv
    match i, hi with
    | 0, _ => rw [a0] at hv; cases hv; exact ⟨p0, 3, t0, .ref c0, e0, rfl, b0, rfl⟩
    | 1, _ => rw [a1] at hv; cases hv; exact ⟨p1, 4, t1, .ref c1, e1, rfl, b1, rfl⟩
    | 2, _ => rw [a2] at hv; cases hv; exact ⟨p2, 5, t2, .ref c2, e2, rfl, b2, rfl⟩
    | 3, _ => rw [a3] at hv; cases hv; exact ⟨p3, 6, t3, .ref c3, e3, rfl, b3, rfl⟩
  · intro k hk
    have got : ∀ {vs : List Value} {j r : Nat}, Nats vs (col fun r => r / 2 ^ j % 2) → r < 16 → ∃ t, vs[r]? = some (.int ((r / 2 ^ j % 2 : Nat) : Int) t) := fun {vs j r} z hr => z.got (col_at hr)
    match k, hk with
    | 0, _ => exact ⟨c0, vs0, f0, rfl, d0, by rw [z0.len]; simp, fun r hr => got z0 hr⟩
    | 1, _ => exact ⟨c1, vs1, f1, rfl, d1, by rw [z1.len]; simp, fun r hr => got z1 hr⟩
    | 2, _ => exact ⟨c2, vs2, f2, rfl, d2, by rw [z2.len]; simp, fun r hr => got z2 hr⟩
    | 3, _ => exact ⟨c3, vs3, f3, rfl, d3, by rw [z3.len]; simp, fun r hr => got z3 hr⟩
  · intro i hi
    have e : (List.foldl (fun k (p : Int × Value) => stored k p.1 p.2) [] [(3, .ref c0), (4, .ref c1), (5, .ref c2), (6, .ref c3)]) = [(3, .ref c0), (4, .ref c1), (5, .ref c2), (6, .ref c3)] := rfl
    rw [e] at hi
    by_cases h3 : i = 3
    · omega
    by_cases h4 : i = 4
    · omega
    by_cases h5 : i = 5
    · omega
    by_cases h6 : i = 6
    · omega
    unfold valueAt at hi
    simp [show ¬ (3 : Int) = i by omega, show ¬ (4 : Int) = i by omega, show ¬ (5 : Int) = i by omega, show ¬ (6 : Int) = i by omega] at hi

theorem law_truths {G : Gl} (D : Gd G) {cs0 : Led} {A' : Around} (hr' : Room A' 30) {c : BC} {x : CC} {q1 q2 : Tok} {aR aO aC aW aN : Addr} {oW : Obj} {vC nvs : List Value} {eC eN : Nat} {ns : List Int} (hs : (c.a5 == sysModules) = false) (hsO : (aO == sysModules) = false) (hIC : IntsAre vC ns) (hlC : vC.length ≤ 63)
    (hW : oW.IsDictOf (Skd G) [(Str.ofString "bank", .ref c.b), (Str.ofString "names", .ref aN), (Str.ofString "opened", .ref aO)]) (hNN : Nats nvs [3, 4, 5, 6]) {en : Env} {L : Addr} {an : An} (E : EOk (fSco (topAt 31)) en L)
    (hcel : en.cells = [(Str.ofString "truths", L + 1 + 4), (Str.ofString "row", L + 1 + 3), (Str.ofString "world", L + 1 + 2), (Str.ofString "bank", L + 1 + 1), (Str.ofString "rope", L + 1)]) {oc_rope oc_bank oc_world : Obj} (d_rope : oc_rope.data = .cell (some (.ref aR))) (d_bank : oc_bank.data = .cell (some (.ref c.b))) (d_world : oc_world.data = .cell (some (.ref aW))) {tt : Tok}
    {h : Heap} {γ : Pm} {m : Mp} {o : BO} {B : List TKey} {oR oO oc_row oc_truths : Obj} {vr vt : Option Value} {kvs : List (Int × Value)} {k : Int} (d_row : oc_row.data = .cell vr) (d_truths : oc_truths.data = .cell vt) (m_clauses : m (Str.ofString "clauses") = some (.ref x.k)) (J : Ins G γ x.k 300 (ckv c.b x)) (I : Ins G γ c.b 622 (bkv c (bful q1 q2))) (H : BR G γ o B) (hO : OpenedR G γ oO B kvs) (hB0 : B0 <+: B) (hRp : RopeO G oR aC k) (hk0 : 0 ≤ k)
    (g_C : γ aC = some (lo vC eC)) (g_W : γ aW = some oW) (g_N : γ aN = some (lo nvs eN)) (g_rope : γ (L + 1) = some oc_rope) (g_bank : γ (L + 1 + 1) = some oc_bank) (g_world : γ (L + 1 + 2) = some oc_world) (g_terms : γ x.terms = some (lo [.int 0 tt] 0)) (g_wait : γ x.waiting = some (lo [] 0)) (hB : B.length ≤ 500000)
    {ps : List Pt} {aD aS : Addr} {us ys : List Value} {eD eS : Nat} (m_due : m (Str.ofString "due") = some (.ref aD)) (g_D : γ aD = some (lo us eD)) (hus : Nats us (ps.map (·.F)).flatten) (m_some : m (Str.ofString "some") = some (.ref aS)) (g_S : γ aS = some (lo ys eS)) (hps : PartsV γ ys ps) (hpr : ∀ p ∈ ps, PtR B 2 p) (hpl : ps.length ≤ 3) {Q : Flow → Heap → Prop} (S : St G an γ L m ((L + 1 + 3, oc_row) :: (L + 1 + 4, oc_truths) :: (aR, oR) :: (aO, oO) :: (bcs c o ++ cs0)) h)
    (fin : ∀ γ' m' oc_row' vr' oc_truths' vt' h', Sub γ γ' → oc_row'.data = .cell vr' → oc_truths'.data = .cell vt' → m' (Str.ofString "clauses") = some (.ref x.k) → St G an γ' L m' ((L + 1 + 3, oc_row') :: (L + 1 + 4, oc_truths') :: (aR, oR) :: (aO, oO) :: (bcs c o ++ cs0)) h' → Q .next h') : WP G A' (execs (loopB.drop 4) en) Q h := by
  generalize hb : loopB.drop 4 = b
  conv at hb => lhs; whnf
  subst hb
  have hnl := hNN.len
  refine x_seq ?_; intro K1 kn1 kr1
  refine x_Assign ?_ (swaps_of E fun e => by kernel_rfl)
  wtm_at "gc"
  refine n_bi (v := .type "dict") (by assumption) (by assumption) (by assumption) (ns_dict _) (by kernel_rfl) (sne (by decide)) ?_ (by kernel_rfl) (by kernel_rfl)
  refine cw_B (by rfl) ?_ (by rfl) (by rfl)
  wtm_at "gc"
  refine e_LCX ?_ (by intro _; rfl) (cl := []) (by rw [hcel]; kernel_rfl) (by kernel_rfl)
  wtm_at "gc"
  refine n_bi (v := .type "enumerate") (by assumption) (by assumption) (by assumption) (ns_enumerate _) (by kernel_rfl) (sne (by decide)) ?_ (by kernel_rfl) (by kernel_rfl)
  refine cw_B (by rfl) ?_ (by rfl) (by rfl)
  wtm_at "gc"
  refine c_enum S g_N ?_
  intro en2 it2 oI2 h2 ok2 S
  refine en_self S ?_
  refine .mk fun tk => ⟨[], clos_of (by rw [hcel]; kernel_rfl), ?_⟩
  refine lcx_core1 (I := en2) (RR := fun acc C => compPost (MD G) A' No none (Po G _) acc C) (y := Str.ofString "k") (fun ys γ' led' => PairsT γ' ys 4 ∧ led' = ((L + 1 + 3, oc_row) :: (L + 1 + 4, oc_truths) :: (aR, oR) :: (aO, oO) :: (bcs c o ++ cs0))) E S (by intro N; rfl) (by intro h; rfl) (by kernel_rfl) ?_ ?_
  · intro C D5 K oL mC0 h5 en5 E5 hce5 hK S5
    refine cd_comp1 (n := 4) (fun i h => ∃ mC oI oK vo ys k γ' old, PairsT γ' ys i ∧ OkL aN i oI ∧ oK.data = .cell vo ∧ Sub γ γ' ∧ St G an γ' C mC ((en2, enO it2 (i : Nat) .none old) :: (it2, oI) :: (K, oK) :: (L, oL) :: (D5, lo ys k) :: ((L + 1 + 3, oc_row) :: (L + 1 + 4, oc_truths) :: (aR, oR) :: (aO, oO) :: (bcs c o ++ cs0))) h)
      ⟨mC0, oI2, cellO, none, [], 0, γ, .none, ⟨rfl, fun j hj => absurd hj (by first | decide | omega)⟩, ok2, rfl, Sub.refl _, ?_⟩ ?_ ?_ ?_
    · have S5 := S5.perm (RemL.perm (p := (it2, oI2)) (by wtm_at "r"))
      exact S5.perm (RemL.perm (p := (en2, _)) (by wtm_at "r"))
    · have S5 := S5.perm (RemL.perm (p := (en2, _)) (by wtm_at "r"))
      exact en_self S5 ⟨rfl, rfl⟩
    · rintro i h6 hi ⟨mC, oI, oK, vo, ys, k6, γ6, old, hys, ok, hd, s6, S6⟩
      have g_N := s6 _ _ g_N
      obtain ⟨tn, hn⟩ := hNN.got (i := i) (n := 3 + i) (names_at i hi)
      refine en_item S6 ok g_N hn ?_
      intro p tp oI' h7 ok' S7
      refine ⟨_, rfl, ?_⟩
      refine en_let S7 ?_
      intro h8 S8
      refine as_tup hr'.h S8 (S8.led_get (by wtm_at "mem")) (by rfl) (by rfl) ?_
      intro h9 S9
      refine io_cons (as_name ?_)
      refine l_cell (c := K) S9 E5 (by rw [hce5]; wtm_at "lc") (fun _ => by wtm_at "u") hd ?_ (by kernel_rfl)
      intro oK2 h10 d_k S10
      refine io_cons (as_name ?_)
      refine n_store S10 E5 ?_ (by kernel_rfl); intro h11 S11
      refine io_nil ?_
      have S11 := (S11.perm (RemL.perm (p := (p, _)) (by wtm_at "r"))).drop
      wtm_at "gc"
      refine e_LC ?_ (by intro _; rfl) (cl := [(Str.ofString "k", K)]) (by rw [hce5]; kernel_rfl) (by kernel_rfl)
      wtm_at "gc"
      refine n_bi (v := .type "range") (by assumption) (by assumption) (by assumption) (ns_range _) (by kernel_rfl) (sne (by decide)) ?_ (by kernel_rfl) (by kernel_rfl)
      refine cw_B (by rfl) ?_ (by rfl) (by rfl)
      wtm_at "gc"
      refine c_range (n := 16) S11 ?_
      intro r12 γ12 h12 ta tb tc s12 hr12 S12
      refine it_range S12 hr12 (by first | decide | omega) ?_
      intro I13 oI13 h13 ok13 S13
      have h2w : 2 ^ i < 2 ^ 20 := Nat.pow_lt_pow_right (by first | decide | omega) (by first | decide | omega)
      refine lcg (cl := [(Str.ofString "k", K)]) (fun j zs _ led => Nats zs ((col fun r => r / 2 ^ i % 2).take j) ∧ led = (en2, enO it2 ((i : Int) + 1) .none (.int (3 + i : Nat) tn)) :: (it2, oI') :: (K, oK2) :: (L, oL) :: (D5, lo ys k6) :: ((L + 1 + 3, oc_row) :: (L + 1 + 4, oc_truths) :: (aR, oR) :: (aO, oO) :: (bcs c o ++ cs0))) E5 (It.range hr'.h) ok13 S13 ⟨.nil, rfl⟩ (by first | decide | omega) (by rw [hce5]; kernel_rfl) (by kernel_rfl) ?_ ?_
      · rintro j zs v γ14 led14 h14 C2 mC2 I14 oI14 oL14 D14 k14 en14 hj ⟨tv, rfl⟩ hyl14 s14 ⟨hzs, rfl⟩ E14 hce14 S14
        wtm_at "gc"
        refine o_pow (n := i) (by first | decide | omega) ?_
        intro tpw
        refine o_fdivn (b := 2 ^ i) (Nat.two_pow_pos i) h2w (by first | decide | omega) ?_
        intro tq
        wtm_at "gc"
        refine o_modn (b := 2) (by first | decide | omega) ?_
        intro tr
        exact ⟨γ14, _, _, Sub.refl _, ⟨by rw [col_snoc hj]; exact hzs.append (.cons .nil), rfl⟩, S14⟩
      rintro D15 zs k15 γ15 γ16 led15 h15 hyl15 s15 s16 ⟨hzs, rfl⟩ hD15 S15
      rw [List.take_of_length_le (by simp)] at hzs
      wtm_at "gc"
      refine ⟨small (by simp), ?_⟩
      obtain ⟨γ17, r17, hsz, s17, hr17, S17⟩ := S15.madeX (tu [.int (3 + i : Nat) tn, .ref D15] 0) rfl
      rw [hsz]
      have s617 := ((s12.trans s15).trans s16).trans s17
      have hyl := hys.1
      refine l_append S17 (by wtm_at "u") (by first | decide | omega) ?_
      intro h18 S18
      exact ⟨_, oI', oK2, _, ys ++ [.ref r17], _, γ17, .int (3 + i : Nat) tn, (hys.sub s617).snoc hr17 (s17 _ _ hD15) hzs, ok', d_k, s6.trans s617, S18⟩
    · rintro h6 ⟨mC, oI, oK, vo, ys, k6, γ6, old, hys, ok, hd, s6, S6⟩
      refine en_end hr'.h S6 ok (s6 _ _ g_N) (by rw [List.getElem?_eq_none (by rw [hnl]; simp)]) ?_
      intro h7 S7
      exact ⟨rfl, mC, ys, k6, γ6, _, s6, ⟨hys, rfl⟩, S7.drop⟩
  rintro D6 C6 oC6 mC6 ys k6 γ6 γ7 led6 h6 t6 s6 s7 ⟨hys, rfl⟩ g_ys hn6 S6
  refine post_val hn6 S6 ?_
  intro h7 S
  have s67 := s6.trans s7
  have hys := hys.sub s7
  have J := J.sub s67
  have I := I.sub s67
  have H := H.sub s67
  have g_C := s67 _ _ g_C
  have g_W := s67 _ _ g_W
  have g_N := s67 _ _ g_N
  have g_rope := s67 _ _ g_rope
  have g_bank := s67 _ _ g_bank
  have g_world := s67 _ _ g_world
  have g_terms := s67 _ _ g_terms
  have g_wait := s67 _ _ g_wait
  have g_D := s67 _ _ g_D
  have g_S := s67 _ _ g_S
  have hps := hps.sub s67
  have hO := hO.sub s67
  wtm_at "gc"
  obtain ⟨pairs, hpl2, hpp, hNm⟩ := hys.dict
  have T0 := S.sit0
  refine c_dictP pairs hr'.h S g_ys hpl2 (by rw [hys.1]; omega) hpp ?_
  intro aT oT h8 hup hup2 hT S
  have hsT := sys_lt D T0 hup2
  have S := S.perm (List.Perm.refl _)
  obtain ⟨γ9, s9, g_T, S⟩ := S.frzR (o := oT) (by wtm_at "r") hup
  have J := J.sub s9
  have I := I.sub s9
  have H := H.sub s9
  have g_C := s9 _ _ g_C
  have g_W := s9 _ _ g_W
  have g_N := s9 _ _ g_N
  have g_rope := s9 _ _ g_rope
  have g_bank := s9 _ _ g_bank
  have g_world := s9 _ _ g_world
  have g_terms := s9 _ _ g_terms
  have g_wait := s9 _ _ g_wait
  have g_D := s9 _ _ g_D
  have g_S := s9 _ _ g_S
  have hps := hps.sub s9
  have hNm := hNm.sub s9
  have hO := hO.sub s9
  refine l_cell S E (by rw [hcel]; wtm_at "lc") (fun _ => by wtm_at "u") d_truths ?_ (by kernel_rfl)
  intro oc_truths2 h10 d_truths2 S
  refine kn1 _ ?_; clear kn1 kr1 K1
  exact law_rows D hr' hs hsO hIC hlC hW hNN E hcel d_rope d_bank d_world d_row d_truths2 m_clauses J I H hO hB0 hRp hk0 g_C g_W g_N g_rope g_bank g_world g_terms g_wait hB g_T hT hsT hNm m_due g_D hus m_some g_S hps hpr hpl S fun γ' m' oc_row' vr' h' s' d' mc' S' => fin γ' m' oc_row' vr' oc_truths2 _ h' ((s67.trans s9).trans s') d' d_truths2 mc' S'
theorem law_body {G : Gl} (D : Gd G) {cs0 : Led} {A' : Around} (hr' : Room A' 30) {c : BC} {x : CC} {q1 q2 : Tok} {aR aO aC aW aN : Addr} {oW : Obj} {vC nvs : List Value} {eC eN : Nat} {ns : List Int} (hs : (c.a5 == sysModules) = false) (hsO : (aO == sysModules) = false) (hIC : IntsAre vC ns) (hlC : vC.length ≤ 63)
    (hW : oW.IsDictOf (Skd G) [(Str.ofString "bank", .ref c.b), (Str.ofString "names", .ref aN), (Str.ofString "opened", .ref aO)]) (hNN : Nats nvs [3, 4, 5, 6]) {en : Env} {L : Addr} {an : An} (E : EOk (fSco (topAt 31)) en L)
    (hcel : en.cells = [(Str.ofString "truths", L + 1 + 4), (Str.ofString "row", L + 1 + 3), (Str.ofString "world", L + 1 + 2), (Str.ofString "bank", L + 1 + 1), (Str.ofString "rope", L + 1)]) {oc_rope oc_bank oc_world : Obj} (d_rope : oc_rope.data = .cell (some (.ref aR))) (d_bank : oc_bank.data = .cell (some (.ref c.b))) (d_world : oc_world.data = .cell (some (.ref aW))) {tt : Tok}
    {h : Heap} {γ : Pm} {m : Mp} {o : BO} {B : List TKey} {oR oO oc_row oc_truths : Obj} {vr vt : Option Value} {kvs : List (Int × Value)} {k : Int} (d_row : oc_row.data = .cell vr) (d_truths : oc_truths.data = .cell vt) (m_clauses : m (Str.ofString "clauses") = some (.ref x.k)) (J : Ins G γ x.k 300 (ckv c.b x)) (I : Ins G γ c.b 622 (bkv c (bful q1 q2))) (H : BR G γ o B) (hO : OpenedR G γ oO B kvs) (hB0 : B0 <+: B) (hRp : RopeO G oR aC k) (hk0 : 0 ≤ k)
    (g_C : γ aC = some (lo vC eC)) (g_W : γ aW = some oW) (g_N : γ aN = some (lo nvs eN)) (g_rope : γ (L + 1) = some oc_rope) (g_bank : γ (L + 1 + 1) = some oc_bank) (g_world : γ (L + 1 + 2) = some oc_world) (g_terms : γ x.terms = some (lo [.int 0 tt] 0)) (g_wait : γ x.waiting = some (lo [] 0)) (hB : B.length ≤ 400000) {Q : Flow → Heap → Prop} (S : St G an γ L m ((L + 1 + 3, oc_row) :: (L + 1 + 4, oc_truths) :: (aR, oR) :: (aO, oO) :: (bcs c o ++ cs0)) h)
    (fin : ∀ γ' m' o' B' oR' oO' kvs' k' oc_row' vr' oc_truths' vt' h', Sub γ γ' → oc_row'.data = .cell vr' → oc_truths'.data = .cell vt' → m' (Str.ofString "clauses") = some (.ref x.k) → BR G γ' o' B' → OpenedR G γ' oO' B' kvs' → B <+: B' → B'.length ≤ B.length + 32 → RopeO G oR' aC k' → 0 ≤ k' →
      St G an γ' L m' ((L + 1 + 3, oc_row') :: (L + 1 + 4, oc_truths') :: (aR, oR') :: (aO, oO') :: (bcs c o' ++ cs0)) h' → Q .next h') : WP G A' (execs loopB en) Q h := by
  generalize hb : loopB = b
  conv at hb => lhs; whnf
  subst hb
  refine x_seq ?_; intro K1 kn1 kr1
  refine x_LC (sc := default) (swaps_of E fun e => by kernel_rfl) (by intro _; rfl) (cl := [(Str.ofString "world", L + 1 + 2), (Str.ofString "rope", L + 1)]) (by rw [hcel]; kernel_rfl) (by kernel_rfl) ?_
  wtm_at "gc"
  refine n_bi (v := .type "range") (by assumption) (by assumption) (by assumption) (ns_range _) (by kernel_rfl) (sne (by decide)) ?_ (by kernel_rfl) (by kernel_rfl)
  refine cw_B (by rfl) ?_ (by rfl) (by rfl)
  wtm_at "gc"
  refine n_glob (v := .ref 631) (by assumption) (by assumption) (by assumption) (ns__law_next _) ?_ (by kernel_rfl) (by kernel_rfl)
  refine cw_K D (by kernel_rfl) ?_ (by rfl) (by rfl)
  wtm_at "gc"
  refine ⟨S.kin D, ?_⟩
  refine wp_call (next_ok D (hr'.less (by first | decide | omega) : Room A' (0 + 1)) (S.sit (xs := [(L + 1 + 3, oc_row), (L + 1 + 4, oc_truths)]) (cs := (aR, oR) :: (aO, oO) :: (bcs c o ++ cs0))) hRp g_C hIC hlC hk0 (by first | decide | omega) ?_)
  intro z tz oR1 γ2 h2 hz0 hz2 hRp P2 C2
  have S := S.after (xs := [(L + 1 + 3, oc_row), (L + 1 + 4, oc_truths)]) (cs := (aR, oR) :: (aO, oO) :: (bcs c o ++ cs0)) P2 (cs' := (aR, oR1) :: (aO, oO) :: (bcs c o ++ cs0)) rfl C2
  simp only [List.cons_append, List.nil_append] at S
  have s2 := P2.sub
  have J := J.sub s2
  have I := I.sub s2
  have H := H.sub s2
  have g_C := s2 _ _ g_C
  have g_W := s2 _ _ g_W
  have g_N := s2 _ _ g_N
  have g_rope := s2 _ _ g_rope
  have g_bank := s2 _ _ g_bank
  have g_world := s2 _ _ g_world
  have g_terms := s2 _ _ g_terms
  have g_wait := s2 _ _ g_wait
  have hO := hO.sub s2
  wtm_at "gc"
  obtain ⟨z, rfl⟩ : ∃ z' : Nat, z = (z' : Nat) := ⟨z.toNat, by omega⟩
  rw [show (1 : Int) + (z : Nat) = ((1 + z : Nat) : Int) by omega]
  refine c_range (n := 1 + z) S ?_
  intro r3 γ3 h3 ta tb tc s3 hr3 S
  refine it_range S hr3 (by first | decide | omega) ?_
  intro I4 oI4 h4 ok4 S4
  have J := J.sub s3
  have I := I.sub s3
  have H := H.sub s3
  have g_C := s3 _ _ g_C
  have g_W := s3 _ _ g_W
  have g_N := s3 _ _ g_N
  have g_rope := s3 _ _ g_rope
  have g_bank := s3 _ _ g_bank
  have g_world := s3 _ _ g_world
  have g_terms := s3 _ _ g_terms
  have g_wait := s3 _ _ g_wait
  have hO := hO.sub s3
  refine lcg_use (cl := [(Str.ofString "world", L + 1 + 2), (Str.ofString "rope", L + 1)]) (fun j ys γ' led => ∃ ps oR' k' oO' kvs' o' B', led = ((L + 1 + 3, oc_row) :: (L + 1 + 4, oc_truths) :: (aR, oR') :: (aO, oO') :: (bcs c o' ++ cs0)) ∧ PartsV γ' ys ps ∧ (∀ p ∈ ps, PtR B' 2 p) ∧ RopeO G oR' aC k' ∧ 0 ≤ k' ∧ OpenedR G γ' oO' B' kvs' ∧ BR G γ' o' B' ∧ B <+: B' ∧ B'.length ≤ B.length + j * 16) E (It.range hr'.h) ok4 S4
    ⟨[], oR1, k + 1, oO, kvs, o, B, rfl, .nil, (fun p hp => nomatch hp), hRp, by omega, hO, H, List.prefix_rfl, by omega⟩ (by first | decide | omega) (by rw [hcel]; kernel_rfl) (by kernel_rfl) (by kernel_rfl) ?_ ?_
  · rintro j ys v γ5 led5 h5 C mC I5 oI5 oL5 D5 k5 en5 hj ⟨tv, rfl⟩ hyl s5 ⟨ps, oR2, k2, oO2, kvs2, o2, B2, rfl, hps, hpr, hRp2, hk2, hO2, H2, hpre, hlen⟩ E5 hce5 S5
    have I := I.sub s5
    have g_C := s5 _ _ g_C
    have g_W := s5 _ _ g_W
    have g_N := s5 _ _ g_N
    have g_rope := s5 _ _ g_rope
    have g_world := s5 _ _ g_world
    wtm_at "gc"
    refine n_glob (v := .ref 636) (by assumption) (by assumption) (by assumption) (ns__law_part _) ?_ (by kernel_rfl) (by kernel_rfl)
    refine cw_K D (by kernel_rfl) ?_ (by rfl) (by rfl)
    wtm_at "gc"
    refine ⟨S5.kin D, ?_⟩
    refine wp_call (part_ok D hs hsO hIC hlC hW hNN 2 (by first | decide | omega) (hr'.less (by first | decide | omega) : Room A' (0 + 3 * 2 + 5)) I H2 hO2 (hB0.trans hpre) (by first | decide | omega) hRp2 hk2 g_C g_W g_N (S5.sit (xs := [(I5, _), (L, _), (D5, _), (L + 1 + 3, _), (L + 1 + 4, _)]) (cs := (aR, oR2) :: (aO, oO2) :: (bcs c o2 ++ cs0))) ?_)
    intro v p oR3 k3 oO3 kvs3 o3 B3 γ6 h6 hpv hpt hRp3 hk3 hO3 H3 hpre3 hlen3 P6 C6
    have S6 := S5.after (xs := [(I5, _), (L, _), (D5, _), (L + 1 + 3, _), (L + 1 + 4, _)]) (cs := (aR, oR2) :: (aO, oO2) :: (bcs c o2 ++ cs0)) P6 (cs' := (aR, oR3) :: (aO, oO3) :: (bcs c o3 ++ cs0)) rfl C6
    refine ⟨γ6, _, _, P6.sub, ⟨ps ++ [p], oR3, k3, oO3, kvs3, o3, B3, rfl, (hps.sub P6.sub).snoc hpv, fun p' hp' => ?_, hRp3, hk3, hO3, H3, hpre.trans hpre3, by omega⟩, S6⟩
    rcases List.mem_append.mp hp' with hp' | hp'
    · exact (hpr p' hp').mono hpre3
    · rw [List.mem_singleton] at hp'; subst hp'; exact hpt
  rintro aS ys k7 γ5 γ6 led5 h5 hyl s5 s6 ⟨ps, oR2, k2, oO2, kvs2, o2, B2, rfl, hps, hpr, hRp2, hk2, hO2, H2, hpre, hlen⟩ g_S S
  have s56 := s5.trans s6
  have H0 := H
  clear H0
  have J := J.sub s56
  have I := I.sub s56
  have g_C := s56 _ _ g_C
  have g_W := s56 _ _ g_W
  have g_N := s56 _ _ g_N
  have g_rope := s56 _ _ g_rope
  have g_bank := s56 _ _ g_bank
  have g_world := s56 _ _ g_world
  have g_terms := s56 _ _ g_terms
  have g_wait := s56 _ _ g_wait
  have H := H2.sub s6
  have hO := hO2.sub s6
  have hps := hps.sub s6
  have hB2 := hB0.trans hpre
  have hplen : ps.length = 1 + z := by rw [← hps.len]; exact hyl
  have hpl : ps.length ≤ 3 := by omega
  have hB2l : B2.length ≤ B.length + 32 := by omega
  have hFl := flat_len hpr
  have h27 : ps.length * 3 ^ 2 ≤ 3 * 9 := Nat.mul_le_mul hpl (by decide)
  refine kn1 _ ?_; clear kn1 kr1 K1
  refine x_seq ?_; intro K2 kn2 kr2
  refine x_LCX (swaps_of E fun e => by kernel_rfl) (by intro _; rfl) (cl := []) (by rw [hcel]; kernel_rfl) (by kernel_rfl) ?_
  wtm_at "gc"
  refine it_list S (S.get g_S) ?_
  intro I8 oI8 h8 ok8 S8
  obtain ⟨segs, hsl, hsn, hsg⟩ := hps.segs
  refine lcx_flat segs hr'.h E (It.list hr'.h g_S) ok8 S8 hsl hsg (by rw [hsn.len]; omega) (by kernel_rfl) (by kernel_rfl) (by kernel_rfl) (by kernel_rfl) (by kernel_rfl) (by kernel_rfl) (by rw [hcel]; kernel_rfl) ?_
  intro aD C9 oC9 mC9 k9 γ9 h9 t9 s9 g_D hn9 S9
  refine post_use E (by kernel_rfl) hn9 S9 ?_
  intro h10 S
  have J := J.sub s9
  have I := I.sub s9
  have H := H.sub s9
  have g_C := s9 _ _ g_C
  have g_W := s9 _ _ g_W
  have g_N := s9 _ _ g_N
  have g_rope := s9 _ _ g_rope
  have g_bank := s9 _ _ g_bank
  have g_world := s9 _ _ g_world
  have g_terms := s9 _ _ g_terms
  have g_wait := s9 _ _ g_wait
  have hO := hO.sub s9
  have hps := hps.sub s9
  have g_S := s9 _ _ g_S
  refine kn2 _ ?_; clear kn2 kr2 K2
  refine x_seq ?_; intro K3 kn3 kr3
  wtm_at "gc"
  refine m_get (f := 444) D S I (by kernel_rfl) (by kernel_rfl) ?_
  refine cw_K0 (S.kin D) (by kernel_rfl) ?_
  refine wp_call (bsize_ok D (hr'.less (by first | decide | omega) : Room A' (0 + 1)) I H (S.sit (xs := [(L + 1 + 3, oc_row), (L + 1 + 4, oc_truths)] ++ [(aR, oR2), (aO, oO2)]) (cs := bcs c o2 ++ cs0)) (by first | decide | omega) ?_)
  intro t11 γ11 h11 sm11
  have S := S.same (xs := [(L + 1 + 3, oc_row), (L + 1 + 4, oc_truths)] ++ [(aR, oR2), (aO, oO2)]) (cs := bcs c o2 ++ cs0) sm11
  simp only [List.cons_append, List.nil_append] at S
  have s11 := sm11.1.sub
  have J := J.sub s11
  have I := I.sub s11
  have H := H.sub s11
  have g_C := s11 _ _ g_C
  have g_W := s11 _ _ g_W
  have g_N := s11 _ _ g_N
  have g_rope := s11 _ _ g_rope
  have g_bank := s11 _ _ g_bank
  have g_world := s11 _ _ g_world
  have g_terms := s11 _ _ g_terms
  have g_wait := s11 _ _ g_wait
  have hO := hO.sub s11
  have hps := hps.sub s11
  have g_S := s11 _ _ g_S
  have g_D := s11 _ _ g_D
  refine n_store (by assumption) E ?_ (by kernel_rfl); intro h12 S
  refine kn3 _ ?_; clear kn3 kr3 K3
  refine x_seq ?_; intro K4 kn4 kr4
  refine x_If ?_
  refine t_or ?_
  refine t_not ?_
  refine t_plain ?_ (by rfl)
  wtm_at "gc"
  refine n_glob (v := .ref 650) (by assumption) (by assumption) (by assumption) (ns__law_are_told _) ?_ (by kernel_rfl) (by kernel_rfl)
  refine cw_K D (by kernel_rfl) ?_ (by rfl) (by rfl)
  wtm_at "gc"
  refine e_LC ?_ (by intro _; rfl) (cl := []) (by rw [hcel]; kernel_rfl) (by kernel_rfl)
  wtm_at "gc"
  refine it_list S (S.get g_S) ?_
  intro I13 oI13 h13 ok13 S13
  refine lcg (cl := []) (fun j zs _ led => Nats zs ((ps.map (·.i)).take j) ∧ led = ((L + 1 + 3, oc_row) :: (L + 1 + 4, oc_truths) :: (aR, oR2) :: (aO, oO2) :: (bcs c o2 ++ cs0))) E (It.list hr'.h g_S) ok13 S13 ⟨.nil, rfl⟩ (by first | decide | omega) (by rw [hcel]; kernel_rfl) (by kernel_rfl) ?_ ?_
  · rintro j zs v γ14 led14 h14 C mC I14 oI14 oL14 D14 k14 en14 hj hv hyl14 s14 ⟨hzs, rfl⟩ E14 hce14 S14
    obtain ⟨p, hp, r, t, a1, a2, e0, vs1, e1, vs2, e2, rfl, hr1, hr2, hr3, hr4, hr5⟩ := hps.get hv
    wtm_at "gc"
    refine i_tup (S14.get (s14 _ _ hr1)) (by first | decide | omega) (by first | decide | omega) (j := 0) (by rfl) rfl ?_ sub_const
    exact ⟨γ14, _, _, Sub.refl _, ⟨by rw [List.take_add_one, List.getElem?_map, hp]; exact hzs.append (.cons .nil), rfl⟩, S14⟩
  rintro aT zs kT γ14 γ15 led14 h14 hyl14 s14 s15 ⟨hzs, rfl⟩ g_T S
  rw [List.take_of_length_le (by rw [List.length_map]; omega)] at hzs
  have s1415 := s14.trans s15
  have J := J.sub s1415
  have I := I.sub s1415
  have H := H.sub s1415
  have g_C := s1415 _ _ g_C
  have g_W := s1415 _ _ g_W
  have g_N := s1415 _ _ g_N
  have g_rope := s1415 _ _ g_rope
  have g_bank := s1415 _ _ g_bank
  have g_world := s1415 _ _ g_world
  have g_terms := s1415 _ _ g_terms
  have g_wait := s1415 _ _ g_wait
  have hO := hO.sub s1415
  have hps := hps.sub s1415
  have g_S := s1415 _ _ g_S
  have g_D := s1415 _ _ g_D
  wtm_at "gc"
  refine ⟨S.kin D, ?_⟩
  obtain ⟨N, hN, hflat⟩ := parts_flat hpr
  have h64 : ps.length * 4 ^ (2 + 1) ≤ 3 * 64 := Nat.mul_le_mul hpl (by decide)
  refine wp_call (told_ok D (hr'.less (by first | decide | omega) : Room A' (0 + 4)) J I H (S.sit (xs := [(L + 1 + 3, oc_row), (L + 1 + 4, oc_truths)] ++ [(aR, oR2), (aO, oO2)]) (cs := bcs c o2 ++ cs0)) (by first | decide | omega) g_T hzs g_D hsn hflat (by first | decide | omega) (parts_lf hpr) (by first | decide | omega) ?_)
  intro γ16 h16 sm16
  have S := S.same (xs := [(L + 1 + 3, oc_row), (L + 1 + 4, oc_truths)] ++ [(aR, oR2), (aO, oO2)]) (cs := bcs c o2 ++ cs0) sm16
  simp only [List.cons_append, List.nil_append] at S
  have s16 := sm16.1.sub
  have J := J.sub s16
  have I := I.sub s16
  have H := H.sub s16
  have g_C := s16 _ _ g_C
  have g_W := s16 _ _ g_W
  have g_N := s16 _ _ g_N
  have g_rope := s16 _ _ g_rope
  have g_bank := s16 _ _ g_bank
  have g_world := s16 _ _ g_world
  have g_terms := s16 _ _ g_terms
  have g_wait := s16 _ _ g_wait
  have hO := hO.sub s16
  have hps := hps.sub s16
  have g_S := s16 _ _ g_S
  have g_D := s16 _ _ g_D
  wtm_at "gc"
  rw [if_neg (by decide)]
  wtm_at "gc"
  refine m_get (f := 444) D S I (by kernel_rfl) (by kernel_rfl) ?_
  refine cw_K0 (S.kin D) (by kernel_rfl) ?_
  refine wp_call (bsize_ok D (hr'.less (by first | decide | omega) : Room A' (0 + 1)) I H (S.sit (xs := [(L + 1 + 3, oc_row), (L + 1 + 4, oc_truths)] ++ [(aR, oR2), (aO, oO2)]) (cs := bcs c o2 ++ cs0)) (by first | decide | omega) ?_)
  intro t17 γ17 h17 sm17
  have S := S.same (xs := [(L + 1 + 3, oc_row), (L + 1 + 4, oc_truths)] ++ [(aR, oR2), (aO, oO2)]) (cs := bcs c o2 ++ cs0) sm17
  simp only [List.cons_append, List.nil_append] at S
  have s17 := sm17.1.sub
  have J := J.sub s17
  have I := I.sub s17
  have H := H.sub s17
  have g_C := s17 _ _ g_C
  have g_W := s17 _ _ g_W
  have g_N := s17 _ _ g_N
  have g_rope := s17 _ _ g_rope
  have g_bank := s17 _ _ g_bank
  have g_world := s17 _ _ g_world
  have g_terms := s17 _ _ g_terms
  have g_wait := s17 _ _ g_wait
  have hO := hO.sub s17
  have hps := hps.sub s17
  have g_S := s17 _ _ g_S
  have g_D := s17 _ _ g_D
  wtm_at "gc"
  rw [bne_self_eq_false, if_neg (by decide)]
  wtm_at "gc"
  rw [if_neg (by decide)]
  wtm_at "gc"
  refine kn4 _ ?_; clear kn4 kr4 K4
  have sT := ((((((s2.trans s3).trans s56).trans s9).trans s11).trans s1415).trans s16).trans s17
  refine law_truths D hr' hs hsO hIC hlC hW hNN E hcel d_rope d_bank d_world d_row d_truths (by wtm_at "lk") J I H hO hB2 hRp2 hk2 g_C g_W g_N g_rope g_bank g_world g_terms g_wait (by first | decide | omega) (by wtm_at "lk") g_D hsn (by wtm_at "lk") g_S hps hpr hpl S ?_
  intro γ' m' oc_row' vr' oc_truths' vt' h' s' d1 d2 mc S'
  exact fin γ' m' o2 B2 oR2 oO2 kvs2 k2 oc_row' vr' oc_truths' vt' h' (sT.trans s') d1 d2 mc (H.sub s') (hO.sub s') hpre hB2l hRp2 hk2 S'
theorem merged2 {x1 x2 : Str} {a b : Value} (h : x1 ≠ x2) : merged [] [(x1, a), (x2, b)] = [(x1, a), (x2, b)] := by
  simp [merged, stored, h]
theorem merged3 {x1 x2 x3 : Str} {a b c : Value} (h : x1 ≠ x2) (h2 : x1 ≠ x3) (h3 : x2 ≠ x3) : merged [] [(x1, a), (x2, b), (x3, c)] = [(x1, a), (x2, b), (x3, c)] := by
  simp [merged, stored, h, h2, h3]
theorem ints_snoc {vs : List Value} {ns : List Int} {n : Int} {t : Tok} (i : IntsAre vs ns) : IntsAre (vs ++ [.int n t]) (ns ++ [n]) := by
  induction i with
  | nil => exact .cons n t .nil
  | cons m u _ ih => exact .cons m u ih
theorem strs4 {ta tb tc td : Tok} {x1 x2 x3 x4 : Str} {j : Nat} {v : Value} (h : ([.str x1 ta, .str x2 tb, .str x3 tc, .str x4 td] : List Value)[j]? = some v) : ∃ x t, v = .str x t := by
  match j, h with
  | 0, h => cases h; exact ⟨_, _, rfl⟩
  | 1, h => cases h; exact ⟨_, _, rfl⟩
  | 2, h => cases h; exact ⟨_, _, rfl⟩
  | 3, h => cases h; exact ⟨_, _, rfl⟩
  | j + 4, h => simp at h
theorem opened0 {G : Gl} {γ : Pm} : OpenedR G γ emd B0 [] where
  dict := by
    obtain ⟨o, ho, hd⟩ := Heap.dictOf_iff.mp (Heap.DictOf.new (knd := Ikd G) G.hB)
    rw [Heap.get?_push_size _ rfl] at ho; cases ho; exact hd
  len := Nat.zero_le _
  told := fun k v h => by cases h
  all := fun i k h ho => by
    have key : ∀ k ∈ B0, k.op ≠ Str.ofString "or" := by decide +kernel
    exact absurd ho (key k (List.mem_of_getElem? h))

theorem law_ok {G : Gl} (D : Gd G) {A : Around} {h : Heap} {γ : Pm} (hr : Room A (39 + 1)) (T : Sit G γ [] h) {aS : Addr} {vs : List Value} {e : Nat} {ns : List Int} (g_S : γ aS = some (lo vs e)) (hI : IntsAre vs ns) (hl : vs.length ≤ 63) {R : Value → Heap → Prop}
    (fin : ∀ γ' h', Post γ h [] γ' h' → R (.bool true) h') : CD G A (.call (.ref 660) ⟨[.ref aS], []⟩) (Ret R) h := by
  refine call_defC D T hr (st := topAt 31) (nm := Str.ofString "law") (ql := Str.ofString "law") (pm := (Value.str (Str.ofString "law_qz0017_01") 1020)) (cd := .ref 659) (binds := [(Str.ofString "script", .ref aS)]) (bl := [(Str.ofString "script", .ref aS)]) (bc := []) (cells := fun N => [(Str.ofString "truths", N + 4), (Str.ofString "row", N + 3), (Str.ofString "world", N + 2), (Str.ofString "bank", N + 1), (Str.ofString "rope", N)]) (by kernel_rfl) (by kernel_rfl) (by kernel_rfl) (by intro N; rfl) (by decide +kernel) (by intro N; rfl) (by kernel_rfl) (by kernel_rfl) (by intro x hx; cases hx) (by kernel_rfl) (by kernel_rfl) (by kernel_rfl) ?_
  intro an L h₁ en A' ce E hcel hr' CA ceUp post S
  generalize hb : fBod (topAt 31) = b
  conv at hb => lhs; whnf
  subst hb
  cases CA with | cons c0 v0 CA =>
  cases CA with | cons c1 v1 CA =>
  cases CA with | cons c2 v2 CA =>
  cases CA with | cons c3 v3 CA =>
  cases CA with | cons c4 v4 CA =>
  cases CA
  rename_i oc_truths vc_truths oc_row vc_row oc_world vc_world oc_bank vc_bank oc_rope vc_rope
  have d_truths : oc_truths.data = .cell none := by rw [c0, v0]; rfl
  have d_row : oc_row.data = .cell none := by rw [c1, v1]; rfl
  have d_world : oc_world.data = .cell none := by rw [c2, v2]; rfl
  have d_bank : oc_bank.data = .cell none := by rw [c3, v3]; rfl
  have d_rope : oc_rope.data = .cell none := by rw [c4, v4]; rfl
  clear c0 v0 c1 v1 c2 v2 c3 v3 c4 v4
  have up_truths : an.h0.objs.size ≤ L + 1 + 4 := ceUp (L + 1 + 4, oc_truths) (by simp)
  have up_row : an.h0.objs.size ≤ L + 1 + 3 := ceUp (L + 1 + 3, oc_row) (by simp)
  have up_world : an.h0.objs.size ≤ L + 1 + 2 := ceUp (L + 1 + 2, oc_world) (by simp)
  have up_bank : an.h0.objs.size ≤ L + 1 + 1 := ceUp (L + 1 + 1, oc_bank) (by simp)
  have up_rope : an.h0.objs.size ≤ L + 1 := ceUp (L + 1, oc_rope) (by simp)
  clear ceUp
  simp only [puts, List.foldl] at S
  simp only [List.cons_append, List.nil_append] at S
  have hr30 : Room A' 30 := hr'.less (by first | decide | omega)
  refine x_seq ?_; intro K1 kn1 kr1
  refine x_Tup (swapped_of E fun e => by kernel_rfl) (by rfl) ?_
  wtm_at "gc"
  refine e_Dict2 S ?_
  intro h2 S
  generalize h₁.objs.size = aR at S ⊢
  wtm_at "gc"
  refine e_LC ?_ (by intro _; rfl) (cl := []) (by rw [hcel]; kernel_rfl) (by kernel_rfl)
  refine e_Upto (an := an) (L := L) (m := put (fun _ => none) (Str.ofString "script") (.ref aS)) (k := 40) ?_
  wtm_at "gc"
  refine ⟨aS, _, _, _, _, rfl, S.get g_S, by omega, S, ?_⟩
  intro r3 γ3 h3 s3 g_3 S
  refine it_list S (S.get g_3) ?_
  intro I4 oI4 h4 ok4 S4
  refine lcg (cl := []) (fun j zs _ led => (∃ ms, IntsAre zs ms) ∧ led = (aR, emd) :: (L + 1 + 4, oc_truths) :: (L + 1 + 3, oc_row) :: (L + 1 + 2, oc_world) :: (L + 1 + 1, oc_bank) :: (L + 1, oc_rope) :: []) E (It.list hr'.h g_3) ok4 S4 ⟨⟨[], .nil⟩, rfl⟩ (by simp; omega) (by rw [hcel]; kernel_rfl) (by kernel_rfl) ?_ ?_
  · rintro j zs v γ5 led5 h5 C mC I5 oI5 oL5 D5 k5 en5 hj hv hyl5 s5 ⟨⟨ms, hms⟩, rfl⟩ E5 hce5 S5
    obtain ⟨n, t, rfl⟩ := ints_mem hI v (List.mem_of_mem_take (List.mem_of_getElem? hv))
    wtm_at "gc"
    refine n_bi (v := .type "int") (by assumption) (by assumption) (by assumption) (ns_int _) (by kernel_rfl) (sne (by decide)) ?_ (by kernel_rfl) (by kernel_rfl)
    refine cw_B (by rfl) ?_ (by rfl) (by rfl)
    wtm_at "gc"
    refine c_inti ?_
    wtm_at "gc"
    refine o_mod (by first | decide | omega) ?_
    intro tr
    exact ⟨γ5, _, _, Sub.refl _, ⟨⟨_, ints_snoc hms⟩, rfl⟩, S5⟩
  rintro aC vC eC γ5 γ6 led5 h5 hyl s5 s6 ⟨⟨ms, hIC⟩, rfl⟩ g_C S
  have hlC : vC.length ≤ 63 := by rw [hyl, List.length_take]; omega
  wtm_at "gc"
  refine ⟨_, _, _, _, γ6, _, _, rfl, rfl, S, ?_⟩
  intro oR h7 hdR S
  rw [merged2 (sne (by decide))] at hdR
  have hRp : RopeO G oR aC 0 := ⟨_, hdR⟩
  wtm_at "gc"
  refine n_glob (v := .ref 622) (by assumption) (by assumption) (by assumption) (ns_BoolBank _) ?_ (by kernel_rfl) (by kernel_rfl)
  refine cw_K0 (S.kin D) (by kernel_rfl) ?_
  have hupb := S.up
  refine c_make D S (f := 318) (by kernel_rfl) (by kernel_rfl) (by kernel_rfl) ?_
  intro γ8 h8 s8 g_inst S
  have S := S.perm (List.perm_append_comm (l₁ := [_]) (l₂ := _))
  refine bank_ok D (hr30.less (by first | decide | omega) : Room A' (3 + 1)).under (S.sit (cs := [_])) g_inst ?_
  intro c q1 q2 o9 es9 n9 γ9 h9 hcb hE H hsm P9 C9 N9
  refine ⟨rfl, ?_⟩
  rw [← hcb]
  have S := S.afterN (cs := [_]) P9 (cs' := [(_, dictOf es9 n9)]) rfl C9 N9
  simp only [List.cons_append, List.nil_append] at S
  obtain ⟨γ10, s10, g_d, S⟩ := S.frzR (o := dictOf es9 n9) (by wtm_at "r") hupb
  have I : Ins G γ10 c.b 622 (bkv c (bful q1 q2)) := ⟨_, es9, n9, by rw [hcb]; exact s10 _ _ (P9.sub _ _ g_inst), g_d, hE⟩
  have H := H.sub s10
  have g_C := s10 _ _ (P9.sub _ _ (s8 _ _ g_C))
  wtm_at "gc"
  refine ⟨small (by simp), ?_⟩
  obtain ⟨γ11, r11, hsz, s11, g_11, S⟩ := S.madeX (tu [.ref aR, .ref c.b] 0) rfl
  rw [hsz]
  have I := I.sub s11
  have H := H.sub s11
  have g_C := s11 _ _ g_C
  refine as_tup hr'.h S (S.get g_11) (by rfl) (by rfl) ?_
  intro h12 S
  refine io_cons (as_name ?_)
  refine l_cell S E (by rw [hcel]; wtm_at "lc") (fun _ => by wtm_at "u") d_rope ?_ (by kernel_rfl)
  intro oc_rope2 h13 d_rope S
  refine io_cons (as_name ?_)
  refine l_cell S E (by rw [hcel]; wtm_at "lc") (fun _ => by wtm_at "u") d_bank ?_ (by kernel_rfl)
  intro oc_bank2 h14 d_bank S
  refine io_nil ?_
  refine kn1 _ ?_; clear kn1 kr1 K1
  obtain ⟨γ12, s12, g_rope, S⟩ := S.frzR (o := oc_rope2) (by wtm_at "r") up_rope
  obtain ⟨γ13, s13, g_bank, S⟩ := S.frzR (o := oc_bank2) (by wtm_at "r") up_bank
  have g_rope := s13 _ _ g_rope
  have s1213 := s12.trans s13
  have I := I.sub s1213
  have H := H.sub s1213
  have g_C := s1213 _ _ g_C
  have S := S.perm (RemL.perm (p := (aR, oR)) (by wtm_at "r"))
  have S := S.perm (RemL.perm (p := (L + 1 + 2, oc_world)) (by wtm_at "r"))
  have S := S.perm (RemL.perm (p := (L + 1 + 4, oc_truths)) (by wtm_at "r"))
  have S := S.perm (RemL.perm (p := (L + 1 + 3, oc_row)) (by wtm_at "r"))
  refine x_seq ?_; intro K2 kn2 kr2
  refine x_Assign ?_ (swaps_of E fun e => by kernel_rfl)
  have hupW := S.up
  refine e_Dict3 S ?_
  intro h15 S
  generalize h14.objs.size = aW at hupW S ⊢
  wtm_at "gc"
  refine e_LC ?_ (by intro _; rfl) (cl := [(Str.ofString "bank", L + 1 + 1)]) (by rw [hcel]; kernel_rfl) (by kernel_rfl)
  wtm_at "gc"
  rename_i ta tb tc td
  refine ⟨small (by simp), ?_⟩
  obtain ⟨γ16, r16, hsz, s16, g_16, S⟩ := S.madeX (tu [.str (Str.ofString "a") ta, .str (Str.ofString "b") tb, .str (Str.ofString "c") tc, .str (Str.ofString "d") td] 0) rfl
  rw [hsz]
  have I := I.sub s16
  have H := H.sub s16
  have g_C := s16 _ _ g_C
  have g_rope := s16 _ _ g_rope
  have g_bank := s16 _ _ g_bank
  refine it_tuple S (S.get g_16) ?_
  intro I17 oI17 h17 ok17 S17
  have b0l : B0.length = 7 := rfl
  refine lcg (cl := [(Str.ofString "bank", L + 1 + 1)]) (fun j ys γ' led => ∃ o' n1 e1 n2 e2 n3 e3, led = (aW, emd) :: (L + 1 + 3, oc_row) :: (L + 1 + 4, oc_truths) :: (L + 1 + 2, oc_world) :: (aR, oR) :: (c.f1, lo n1 e1) :: (c.f2, lo n2 e2) :: (c.f3, lo n3 e3) :: (bcs c o' ++ []) ∧ BR G γ' o' (B0.take (3 + j)) ∧ Nats ys (([3, 4, 5, 6] : List Nat).take j) ∧ n1.length = j ∧ n2.length = j ∧ n3.length = j) E (It.tuple hr'.h g_16) ok17 S17
    ⟨o9, [], 0, [], 0, [], 0, rfl, H, .nil, rfl, rfl, rfl⟩ (by simp) (by rw [hcel]; kernel_rfl) (by kernel_rfl) ?_ ?_
  · rintro j ys v γ18 led18 h18 C mC I18 oI18 oL18 D18 k18 en18 hj hv hyl18 s18 ⟨o', n1, e1, n2, e2, n3, e3, rfl, H, hys, z1, z2, z3⟩ E18 hce18 S18
    have hj4 : j < 4 := by simpa using hj
    obtain ⟨x, tx, rfl⟩ := strs4 hv
    have I := I.sub s18
    have g_bank := s18 _ _ g_bank
    wtm_at "gc"
    refine m_get (f := 374) D S18 I (by kernel_rfl) (by kernel_rfl) ?_
    refine cw_K D (by kernel_rfl) ?_ (by rfl) (by rfl)
    wtm_at "gc"
    refine n_glob (v := .int 0 600) (by assumption) (by assumption) (by assumption) (ns_BOOL _) ?_ (by kernel_rfl) (by kernel_rfl)
    wtm_at "gc"
    refine ⟨S18.kin D, ?_⟩
    have htl : (B0.take (3 + j)).length = 3 + j := by rw [List.length_take, b0l]; omega
    refine wp_call (fresh_ok D (hr30.less (by first | decide | omega) : Room A' (0 + 3)) (o := o') (B := B0.take (3 + j)) (cs := []) (n1 := n1) (n2 := n2) (n3 := n3) I H (S18.sit (xs := [(I18, _), (L, _), (D18, _), (aW, _), (L + 1 + 3, _), (L + 1 + 4, _), (L + 1 + 2, _), (aR, _)]) (cs := (c.f1, lo n1 e1) :: (c.f2, lo n2 e2) :: (c.f3, lo n3 e3) :: (bcs c o' ++ []))) (by first | decide | omega) (by first | decide | omega) hsm (by first | decide | omega) ?_)
    intro i19 t19 o19 B19 n1' e1' n2' e2' n3' e3' γ19 h19 M19 H19 y1 y2 y3 P19 C19
    have S19 := S18.after (xs := [(I18, _), (L, _), (D18, _), (aW, _), (L + 1 + 3, _), (L + 1 + 4, _), (L + 1 + 2, _), (aR, _)]) (cs := (c.f1, lo n1 e1) :: (c.f2, lo n2 e2) :: (c.f3, lo n3 e3) :: (bcs c o' ++ [])) P19 (cs' := (c.f1, lo n1' e1') :: (c.f2, lo n2' e2') :: (c.f3, lo n3' e3') :: (bcs c o19 ++ [])) rfl C19
    rw [z1] at M19
    obtain ⟨rfl, rfl⟩ := M19.fresh (b0_new j hj4)
    rw [b0_take j hj4] at H19
    rw [htl]
    refine ⟨γ19, _, _, P19.sub, ⟨o19, n1', e1', n2', e2', n3', e3', rfl, H19, ?_, by omega, by omega, by omega⟩, S19⟩
    rw [List.take_add_one, names_at j hj4]
    exact hys.append (.cons .nil)
  rintro aN nvs eN γ18 γ19 led18 h18 hyl18 s18 s19 ⟨o', n1, e1, n2, e2, n3, e3, rfl, H, hNN, z1, z2, z3⟩ g_N S
  have hNN : Nats nvs [3, 4, 5, 6] := hNN
  have H : BR G γ19 o' B0 := H.sub s19
  have s1819 := s18.trans s19
  have I := I.sub s1819
  have g_C := s1819 _ _ g_C
  have g_rope := s1819 _ _ g_rope
  have g_bank := s1819 _ _ g_bank
  have S := S.perm (RemL.perm (p := (c.f1, lo n1 e1)) (by wtm_at "r"))
  have S := S.drop
  have S := S.perm (RemL.perm (p := (c.f2, lo n2 e2)) (by wtm_at "r"))
  have S := S.drop
  have S := S.perm (RemL.perm (p := (c.f3, lo n3 e3)) (by wtm_at "r"))
  have S := S.drop
  wtm_at "gc"
  refine e_Dict0 ?_
  have T20 := S.sit0
  obtain ⟨aO, hsz, hupO, S⟩ := S.pushX emd rfl
  rw [hsz]
  have hsO : (aO == sysModules) = false := sys_lt D T20 (Nat.le_of_eq hsz)
  have S := S.perm (RemL.perm (p := (aW, emd)) (by wtm_at "r"))
  refine ⟨_, _, _, _, _, _, γ19, _, _, rfl, rfl, rfl, S, ?_⟩
  intro oW h20 hW S
  rw [merged3 (sne (by decide)) (sne (by decide)) (sne (by decide))] at hW
  refine l_cell S E (by rw [hcel]; wtm_at "lc") (fun _ => by wtm_at "u") d_world ?_ (by kernel_rfl)
  intro oc_world2 h21 d_world S
  refine kn2 _ ?_; clear kn2 kr2 K2
  obtain ⟨γ21, s21, g_W, S⟩ := S.frzR (o := oW) (by wtm_at "r") hupW
  obtain ⟨γ22, s22, g_world, S⟩ := S.frzR (o := oc_world2) (by wtm_at "r") up_world
  have g_W := s22 _ _ g_W
  have s2122 := s21.trans s22
  have I := I.sub s2122
  have H := H.sub s2122
  have g_C := s2122 _ _ g_C
  have g_rope := s2122 _ _ g_rope
  have g_bank := s2122 _ _ g_bank
  have g_N := s2122 _ _ g_N
  have S := S.perm (RemL.perm (p := (aO, emd)) (by wtm_at "r"))
  have S := S.perm (RemL.perm (p := (aR, oR)) (by wtm_at "r"))
  have S := S.perm (RemL.perm (p := (L + 1 + 4, oc_truths)) (by wtm_at "r"))
  have S := S.perm (RemL.perm (p := (L + 1 + 3, oc_row)) (by wtm_at "r"))
  refine x_seq ?_; intro K3 kn3 kr3
  wtm_at "gc"
  refine n_glob (v := .ref 300) (by assumption) (by assumption) (by assumption) (ns_BoolClauses _) ?_ (by kernel_rfl) (by kernel_rfl)
  refine cw_K D (by kernel_rfl) ?_ (by rfl) (by rfl)
  wtm_at "gc"
  refine n_glob (v := .ref 160) (by assumption) (by assumption) (by assumption) (ns_ClauseStore _) ?_ (by kernel_rfl) (by kernel_rfl)
  refine cw_K0 (S.kin D) (by kernel_rfl) ?_
  refine c_make D S (f := 143) (by kernel_rfl) (by kernel_rfl) (by kernel_rfl) ?_
  intro γ23 h23 s23 g_inst S
  have S := S.perm (List.perm_append_comm (l₁ := [_]) (l₂ := _))
  refine store_ok D (hr30.less (by first | decide | omega) : Room A' (1 + 1)).under (S.sit (cs := [_])) g_inst ?_
  intro es24 n24 γ24 h24 P24 C24
  refine ⟨rfl, ?_⟩
  have S := S.after (cs := [_]) P24 (cs' := [(_, dictOf es24 n24)]) rfl C24
  have S := (S.perm (List.perm_append_comm (l₁ := _) (l₂ := [_]))).drop
  have s24 := s23.trans P24.sub
  have I := I.sub s24
  have H := H.sub s24
  have g_C := s24 _ _ g_C
  have g_rope := s24 _ _ g_rope
  have g_bank := s24 _ _ g_bank
  have g_N := s24 _ _ g_N
  have g_W := s24 _ _ g_W
  have g_world := s24 _ _ g_world
  wtm_at "gc"
  refine ⟨S.kin D, ?_⟩
  have hup2 := S.up
  refine c_make D S (f := 178) (by kernel_rfl) (by kernel_rfl) (by kernel_rfl) ?_
  intro γ25 h25 s25 g_inst2 S
  have S := S.perm (List.perm_append_comm (l₁ := [_]) (l₂ := _))
  refine clauses_ok D (hr30.less (by first | decide | omega) : Room A' (1 + 1)).under (S.sit (cs := [_])) g_inst2 ?_
  intro x t26 es26 n26 γ26 h26 hxb hE2 g_terms g_wait P26 C26
  refine ⟨rfl, ?_⟩
  rw [← hxb]
  have S := S.after (cs := [_]) P26 (cs' := [(_, dictOf es26 n26)]) rfl C26
  simp only [List.cons_append, List.nil_append] at S
  obtain ⟨γ27, s27, g_d2, S⟩ := S.frzR (o := dictOf es26 n26) (by wtm_at "r") hup2
  have J : Ins G γ27 x.k 300 (ckv c.b x) := ⟨_, es26, n26, by rw [hxb]; exact s27 _ _ (P26.sub _ _ g_inst2), g_d2, hE2⟩
  have g_terms := s27 _ _ g_terms
  have g_wait := s27 _ _ g_wait
  have s2527 := (s25.trans P26.sub).trans s27
  have I := I.sub s2527
  have H := H.sub s2527
  have g_C := s2527 _ _ g_C
  have g_rope := s2527 _ _ g_rope
  have g_bank := s2527 _ _ g_bank
  have g_N := s2527 _ _ g_N
  have g_W := s2527 _ _ g_W
  have g_world := s2527 _ _ g_world
  refine n_store S E ?_ (by kernel_rfl); intro h28 S
  refine kn3 _ ?_; clear kn3 kr3 K3
  refine x_seq ?_; intro K4 kn4 kr4
  refine x_For ?_ (by intro _; rfl)
  wtm_at "gc"
  refine n_bi (v := .type "range") (by assumption) (by assumption) (by assumption) (ns_range _) (by kernel_rfl) (sne (by decide)) ?_ (by kernel_rfl) (by kernel_rfl)
  refine cw_B (by rfl) ?_ (by rfl) (by rfl)
  wtm_at "gc"
  refine n_glob (v := .ref 631) (by assumption) (by assumption) (by assumption) (ns__law_next _) ?_ (by kernel_rfl) (by kernel_rfl)
  refine cw_K D (by kernel_rfl) ?_ (by rfl) (by rfl)
  wtm_at "gc"
  refine ⟨S.kin D, ?_⟩
  refine wp_call (next_ok D (hr30.less (by first | decide | omega) : Room A' (0 + 1)) (S.sit (xs := [(L + 1 + 3, _), (L + 1 + 4, _)]) (cs := (aR, oR) :: (aO, emd) :: (bcs c o' ++ []))) hRp g_C hIC hlC (by first | decide | omega) (by first | decide | omega) ?_)
  intro z tz oR2 γ29 h29 hz0 hz2 hRp P29 C29
  have S := S.after (xs := [(L + 1 + 3, _), (L + 1 + 4, _)]) (cs := (aR, oR) :: (aO, emd) :: (bcs c o' ++ [])) P29 (cs' := (aR, oR2) :: (aO, emd) :: (bcs c o' ++ [])) rfl C29
  simp only [List.cons_append, List.nil_append] at S
  have s29 := P29.sub
  have J := J.sub s29
  have I := I.sub s29
  have H := H.sub s29
  have g_C := s29 _ _ g_C
  have g_W := s29 _ _ g_W
  have g_N := s29 _ _ g_N
  have g_rope := s29 _ _ g_rope
  have g_bank := s29 _ _ g_bank
  have g_world := s29 _ _ g_world
  have g_terms := s29 _ _ g_terms
  have g_wait := s29 _ _ g_wait
  wtm_at "gc"
  obtain ⟨z, rfl⟩ : ∃ z' : Nat, z = (z' : Nat) := ⟨z.toNat, by omega⟩
  rw [show (1 : Int) + (z : Nat) = ((1 + z : Nat) : Int) by omega]
  refine c_range (n := 1 + z) S ?_
  intro r30 γ30 h30 ta2 tb2 tc2 s30 hr30' S
  refine it_range S hr30' (by first | decide | omega) ?_
  intro I31 oI31 h31 ok31 S
  have J := J.sub s30
  have I := I.sub s30
  have H := H.sub s30
  have g_C := s30 _ _ g_C
  have g_W := s30 _ _ g_W
  have g_N := s30 _ _ g_N
  have g_rope := s30 _ _ g_rope
  have g_bank := s30 _ _ g_bank
  have g_world := s30 _ _ g_world
  have g_terms := s30 _ _ g_terms
  have g_wait := s30 _ _ g_wait
  refine cd_for E (It.range hr'.h) ok31 S (fun i γ' m' led' => ∃ o2 B2 oR3 oO3 kvs3 k3 oc_row3 oc_tr3 vr3 vt3, led' = (L + 1 + 3, oc_row3) :: (L + 1 + 4, oc_tr3) :: (aR, oR3) :: (aO, oO3) :: (bcs c o2 ++ []) ∧ oc_row3.data = .cell vr3 ∧ oc_tr3.data = .cell vt3 ∧ m' (Str.ofString "clauses") = some (.ref x.k) ∧ BR G γ' o2 B2 ∧ OpenedR G γ' oO3 B2 kvs3 ∧ B0 <+: B2 ∧ B2.length ≤ 7 + 32 * i ∧ RopeO G oR3 aC k3 ∧ 0 ≤ k3)
    ⟨o', B0, oR2, emd, [], _, oc_row, oc_truths, none, none, rfl, d_row, d_truths, by wtm_at "lk", H, opened0, List.prefix_rfl, by rw [b0l]; omega, hRp, by omega⟩ ?_ ?_ (by kernel_rfl)
  · rintro i v γ32 m32 led32 oI32 h32 hi ⟨tv, rfl⟩ s32 ⟨o2, B2, oR3, oO3, kvs3, k3, oc_row3, oc_tr3, vr3, vt3, rfl, dr, dt, mc, H, hO, hB2, hlen, hRp, hk⟩ S
    have J := J.sub s32
    have I := I.sub s32
    have g_C := s32 _ _ g_C
    have g_W := s32 _ _ g_W
    have g_N := s32 _ _ g_N
    have g_rope := s32 _ _ g_rope
    have g_bank := s32 _ _ g_bank
    have g_world := s32 _ _ g_world
    have g_terms := s32 _ _ g_terms
    have g_wait := s32 _ _ g_wait
    have S := S.perm (List.perm_append_comm (l₁ := [(I31, oI32)]) (l₂ := _))
    simp only [List.cons_append, List.nil_append] at S
    refine law_body D (cs0 := [(I31, oI32)]) hr30 hsm hsO hIC hlC hW hNN E hcel d_rope d_bank d_world dr dt (by wtm_at "lk") J I H hO hB2 hRp hk g_C g_W g_N g_rope g_bank g_world g_terms g_wait (by first | decide | omega) S ?_
    intro γ' m' o4 B4 oR4 oO4 kvs4 k4 ocr vr4 oct vt4 h4 s4 dr4 dt4 mc4 H4 hO4 pre4 len4 hRp4 hk4 S4
    simp only [List.cons_append, List.nil_append] at S4
    have S4 := S4.perm (RemL.perm (p := (I31, oI32)) (by wtm_at "r"))
    exact ⟨γ', m', _, s4, ⟨o4, B4, oR4, oO4, kvs4, k4, ocr, oct, vr4, vt4, rfl, dr4, dt4, mc4, H4, hO4, hB2.trans pre4, by omega, hRp4, hk4⟩, S4⟩
  · rintro γ33 m33 led33 h33 s33 ⟨o2, B2, oR3, oO3, kvs3, k3, oc_row3, oc_tr3, vr3, vt3, rfl, dr, dt, mc, H, hO, hB2, hlen, hRp, hk⟩ S
    have J := J.sub s33
    have I := I.sub s33
    have g_C := s33 _ _ g_C
    have g_W := s33 _ _ g_W
    have g_N := s33 _ _ g_N
    have g_rope := s33 _ _ g_rope
    have g_bank := s33 _ _ g_bank
    have g_world := s33 _ _ g_world
    have g_terms := s33 _ _ g_terms
    have g_wait := s33 _ _ g_wait
    refine kn4 _ ?_; clear kn4 kr4 K4
    exact law_tail D (cs0 := []) hr30 hsm hsO hIC hlC hW hNN E hcel d_rope d_bank d_world dr dt mc J I H hO hB2 hRp hk g_C g_W g_N g_rope g_bank g_world g_terms g_wait (by first | decide | omega) S fun γ' m' led' h' S' => fin γ' h' (post _ _ _ _ S')
theorem ns_law (P : Params) : nsIn (KF P) mainGlobals (Str.ofString "law") = some (some (.ref 660)) := by kernel_rfl
theorem walk : TheWalk := by
  intro w s₀ s₁ mg mb G0 Y a o pm cd doc dV kV ho hdata hcd hdf hmg hgens args vals as hpre hlay hrd hwell hsys
  have hw2 := hwell
  wrow_args hpre hlay hrd hwell hsys
  rename IntsAre _ _ => hI
  rename Heap.IsList _ _ _ => hL
  rename ¬ _ < _ => hlen
  rename_i xs _ _ aS vs _ _ _ _ _ _
  cases hw2 with
  | cons hw _ =>
    cases hw with
    | @list _ us ys hg hwa =>
      have e1 : us = vs := by
        obtain ⟨o', ho', _, n, hd'⟩ := hL
        rw [hg] at ho'
        cases ho'
        simp at hd'
        exact hd'.1
      subst e1
      have ea : a = 660 := by
        have := mg_of (n := Str.ofString "law") Y G0.T.g (ns_law w.params)
        rw [show dLaw.name = Str.ofString "law" from rfl] at hmg
        rw [hmg] at this
        injection this with this
        injection this
      subst ea
      have D : Gd ⟨w, s₁, s₁.heap, mg, mb, ExcName.means s₀.heap⟩ := ⟨Y, G0.T⟩
      have T : Sit ⟨w, s₁, s₁.heap, mg, mb, ExcName.means s₀.heap⟩ s₁.heap.get? [] s₁.heap := ⟨fun _ _ e => e, fun _ _ e => e, fun p hp => (nomatch hp), .nil⟩
      have hl : us.length ≤ 63 := by rw [hI.length]; omega
      have R : Room callerA (39 + 1) := ⟨by decide +kernel, by decide +kernel, rfl⟩
      have main := (wp_call (law_ok (R := fun v h' => v = .bool true ∧ ∀ b o, s₁.heap.get? b = some o → h'.get? b = some o) D R T (vs := us) (e := 0) hg hI hl fun γ' h' P => ⟨rfl, fun b o e => P.ext b o e (by simp)⟩)).run s₁.toks
      refine wpAny_mono main (fun v s' ⟨h', t', es, ev, hk⟩ => ?_) fun _ _ e => e.elim
      subst es ev
      refine GoodW.toG ⟨.inl ⟨.bool true, .bool true, [], rfl, fun _ => rfl, .bool true, by wrow_post, fun _ => ⟨.nil, fun a ha => (nomatch ha)⟩⟩, hk, rfl, hgens⟩
theorem done : rl.Holds := head walk
end Mine
theorem PySem.Challenge.cw_qz0017_01_holds : PySem.Challenge.rw_qz0017_01.Holds :=
  Mine.done
